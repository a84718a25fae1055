import PyProof.Rows.All
import Wide.All
import OpenK.AllK
import Wide.FinOn
import HandS.ForMost
import HandS.ForExc
import HandS.CallSlots
import HandS.Evl
import HandS.Wide
import HandS.TupAny
import HandS.TupMul
import HandS.Deep
import HandS.IsInst
import HandS.Zip
import HandS.Rev
import KE.KStateDown
import HandS.More
import HandS.Defaults
import HandS.Head0
import HandS.Head1
import HandS.Head2
import HandS.HeadEnd
import HandS.HeadHook1
import HandS.HeadHook2
import HandS.Words
import HandS.WordsExc
import KE.KExcSuper
import HandS.ExcInit
import HandS.Nested
import HandS.TryMany
import HandS.TryOnly
import HandS.ExcField
import HandS.ExcIs
import KE.KExcPX
import HandS.Flow
import HandS.Text
import HandS.RaiseMore
import HandS.ClsMeth
import HandS.Property
import HandS.TupSets
import KE.KeyNested
import KE.KDictKeyed
import KE.SortCalls
import KE.SortData
import KE.DataCmp
import PySem.Challenge.RW_liftedliars_k13_line_trees_judged
set_option Elab.async false
set_option linter.all false
set_option maxRecDepth 100000
/-! DL, part a: values without a heap, what stands for what, and how it is carried along. -/
namespace DL
open PySem PySem.Spec PyProof.Rows L2

/-- a value of Python as plain data -/
inductive D where
  | non | bl (b : Bool) | int (i : Int) | str (s : Str)
  | tup (ds : List D)
  /-- a list that came in as an argument: read only -/
  | lst (ds : List D)
  /-- .. that is locked (the script) -/
  | lck (ds : List D)
  /-- a list made since the entry of the def, held by other data, no longer changed -/
  | fr (ds : List D)
  /-- a list just made, nobody else's -/
  | new (ds : List D)
  /-- a changing object of this frame, by its number -/
  | ref (n : Nat)
  /-- a class or a def of the text, by its name -/
  | glob (x : Str)
  /-- a built-in class -/
  | ty (n : String)
  /-- an instance of a class of the text that stays as it is -/
  | obj (C : Str) (fs : List (Str × D))
  /-- .. that came in as an argument and may change behind the call -/
  | bor (C : Str) (fs : List (Str × D))
  /-- an exception that is handled -/
  | exh (a d : Addr) (C : Str) (fs : List (Str × D))

/-- a changing object -/
inductive MO where
  | lst (ds : List D)
  | ins (C : Str) (fs : List (Str × D))

abbrev Sl := List (Option D)
abbrev Mem := List MO

/-- an exception in flight: its class, its own attributes -/
structure Exn where
  cls : Str
  fs : List (Str × D)

/-! ### what may leave a def -/
mutual
def plain : D → Bool
  | .non | .bl _ | .int _ | .str _ | .glob _ | .ty _ => true
  | .tup ds => plainL ds
  | .fr ds => plainL ds
  | .obj _ fs => plainF fs
  | _ => false
def plainL : List D → Bool
  | [] => true
  | d :: ds => plain d && plainL ds
def plainF : List (Str × D) → Bool
  | [] => true
  | (_, d) :: ds => plain d && plainF ds
end
def outOk : D → Bool
  | .new ds => plainL ds
  | d => plain d

/-! ### what stands for what -/
/-- a tuple of the written part -/
def Kt (K : PySem.W.Frag) (a : Addr) (xs : List V) : Prop :=
  ∃ (o : Obj) (its : Array Value) (n : Nat), K.lookup a = some o ∧ o.cls = .type "tuple" ∧ o.data = .seq its n ∧ its.size ≤ sizeLine ∧ Vals xs its.toList
def TupAt (K : PySem.W.Frag) (av θ : List Addr) (H : Hp) (a : Addr) (xs : List V) : Prop := (a ∉ θ ∧ a ∉ av ∧ Rd H a (.tup xs)) ∨ Kt K a xs
theorem TupAt.sq {K : PySem.W.Frag} {av θ : List Addr} {H : Hp} {a : Addr} {xs : List V} (h : TupAt K av θ H a xs) : SqT K H a xs := by
  rcases h with ⟨_, _, h⟩ | h
  · exact .inl h
  · exact .inr h
abbrev Mg := Str → Option Value
section
variable (K : PySem.W.Frag) (mg : Mg) (H0 : Hp) (av θ : List Addr) (H : Hp)
mutual
def rep : D → V → Prop
  | .non, v => v = .non
  | .bl b, v => v = .bl b
  | .int i, v => v = .int i
  | .str s, v => v = .str s
  | .tup ds, v => ∃ a xs, v = .ref a ∧ TupAt K av θ H a xs ∧ repL ds xs
  | .lst ds, v => ∃ a xs, v = .ref a ∧ H0 a = some (.lst xs) ∧ repL ds xs
  | .lck ds, v => ∃ a xs, v = .ref a ∧ SqL K H0 a xs ∧ repL ds xs
  | .fr ds, v => ∃ a xs, v = .ref a ∧ a ∉ θ ∧ a ∉ av ∧ H0 a = none ∧ H a = some (.lst xs) ∧ repL ds xs
  | .new ds, v => ∃ a xs, v = .ref a ∧ a ∉ θ ∧ a ∉ av ∧ H0 a = none ∧ H a = some (.lst xs) ∧ repL ds xs
  | .ref n, v => ∃ a, v = .ref a ∧ θ[n]? = some a
  | .glob x, v => ∃ a, v = .ref a ∧ mg x = some (.ref a)
  | .ty n, v => v = .ty n
  | .obj C fs, v => ∃ a c dx vs, v = .ref a ∧ a ∉ θ ∧ a ∉ av ∧ mg C = some (.ref c) ∧ H a = some (.ins c dx vs) ∧ repF fs vs
  | .bor C fs, v => ∃ a c dx vs, v = .ref a ∧ mg C = some (.ref c) ∧ H0 a = some (.ins c dx vs) ∧ repF fs vs
  | .exh a d C fs, v => ∃ c vs, v = .ref a ∧ d ∉ θ ∧ d ∉ av ∧ mg C = some (.ref c) ∧ H d = some (.xd vs) ∧ repF fs vs
def repL : List D → List V → Prop
  | [], xs => xs = []
  | d :: ds, xs => ∃ x r, xs = x :: r ∧ rep d x ∧ repL ds r
def repF : List (Str × D) → List (Str × V) → Prop
  | [], xs => xs = []
  | (k, d) :: ds, xs => ∃ x r, xs = (k, x) :: r ∧ rep d x ∧ repF ds r
end
def repO : MO → Addr → Prop
  | .lst ds, a => ∃ xs, H a = some (.lst xs) ∧ repL K mg H0 av θ H ds xs
  | .ins C fs, a => ∃ c dx vs, mg C = some (.ref c) ∧ H a = some (.ins c dx vs) ∧ repF K mg H0 av θ H fs vs
/-- a value handed back -/
def repR (d : D) (v : V) : Prop := outOk d = true ∧ rep K mg H0 av [] H d v ∧ ∀ ds, d = .new ds → ∃ p xs, v = .ref p ∧ H p = some (.lst xs) ∧ repL K mg H0 (p :: av) [] H ds xs
def repX (e : Exn) (cls : Value) (dd : Option Addr) : Prop :=
  (∃ c d vs, mg e.cls = some (.ref c) ∧ cls = .ref c ∧ dd = some d ∧ d ∉ θ ∧ d ∉ av ∧ H d = some (.xd vs) ∧ plainF e.fs = true ∧ repF K mg H0 av θ H e.fs vs) ∨
  (e.fs = [] ∧ ∃ T : String, mg e.cls = none ∧ e.cls = T ∧ cls = .type T)
end

/-! ### carrying -/
def Exh (H H' : Hp) : Prop := ∀ a o, H a = some o → H' a = some o
theorem Exh.refl (H : Hp) : Exh H H := fun _ _ h => h
theorem Exh.trans {H H1 H2 : Hp} (a : Exh H H1) (b : Exh H1 H2) : Exh H H2 := fun x o h => b x o (a x o h)
theorem Exh.new {H : Hp} {p : Addr} {o : HO} (h : H p = none) : Exh H (upd H p o) := fun a u e => by
  rw [upd_ne (ne_of_none e h)]; exact e
theorem Exh.mut {H H' : Hp} {p : Addr} {o : HO} (e : Exh H H') (h : H p = none) : Exh H (upd H' p o) := fun a u ha => by
  rw [upd_ne (ne_of_none ha h)]; exact e a u ha
theorem Exh.back {H H' : Hp} (e : Exh H H') {a : Addr} (h : H' a = none) : H a = none := by
  cases q : H a with
  | none => rfl
  | some o => rw [e a o q] at h; cases h
theorem Exh.rd {H H' : Hp} (e : Exh H H') {a : Addr} {u : HO} (h : Rd H a u) : Rd H' a u := by
  rcases h with h | ⟨o, h⟩
  · exact .inl (e _ _ h)
  · exact .inr ⟨o, e _ _ h⟩

/-- from one state of a frame to a later one: new objects may be owned, owned ones may change -/
structure Gr (θ θ' : List Addr) (H H' : Hp) : Prop where
  pre : θ <+: θ'
  nw : ∀ a ∈ θ', a ∉ θ → H a = none
  keep : ∀ a o, a ∉ θ → H a = some o → H' a = some o
section
variable {K : PySem.W.Frag} {mg : Mg} {H0 H H1 H2 H' : Hp} {av θ θ1 θ2 θ' : List Addr}
theorem Gr.of_ex (e : Exh H H') : Gr θ θ H H' := ⟨List.prefix_refl _, fun a h n => absurd h n, fun a o _ h => e a o h⟩
theorem Gr.refl : Gr θ θ H H := Gr.of_ex (Exh.refl H)
theorem Gr.mem (g : Gr θ θ' H H') {a : Addr} (h : a ∈ θ) : a ∈ θ' := g.pre.subset h
theorem Gr.notin (g : Gr θ θ' H H') {a : Addr} {o : HO} (h : a ∉ θ) (e : H a = some o) : a ∉ θ' := fun q => by
  rw [g.nw a q h] at e; cases e
theorem Gr.trans (g : Gr θ θ1 H H1) (f : Gr θ1 θ2 H1 H2) : Gr θ θ2 H H2 where
  pre := g.pre.trans f.pre
  nw := fun a h n => by
    by_cases q : a ∈ θ1
    · exact g.nw a q n
    · have z := f.nw a h q
      cases e : H a with
      | none => rfl
      | some o => rw [g.keep a o n e] at z; cases z
  keep := fun a o n e => f.keep a o (g.notin n e) (g.keep a o n e)
theorem Gr.get (g : Gr θ θ' H H') {n : Nat} {a : Addr} (h : θ[n]? = some a) : θ'[n]? = some a := by
  obtain ⟨r, rfl⟩ := g.pre
  rw [List.getElem?_append_left]
  · exact h
  · exact (List.getElem?_eq_some_iff.mp h).1

variable {bv : List Addr}
/-- what an object that is not this frame's does from one state to another -/
abbrev Goes (av bv θ θ' : List Addr) (H H' : Hp) : Prop := ∀ a o, a ∉ θ → a ∉ av → H a = some o → a ∉ θ' ∧ a ∉ bv ∧ H' a = some o
theorem TupAt.tr (k : Goes av bv θ θ' H H') {a : Addr} {xs : List V} (h : TupAt K av θ H a xs) : TupAt K bv θ' H' a xs := by
  rcases h with ⟨n, m, h | ⟨o, h⟩⟩ | h
  · obtain ⟨k1, k2, k3⟩ := k a _ n m h
    exact .inl ⟨k1, k2, .inl k3⟩
  · obtain ⟨k1, k2, k3⟩ := k a _ n m h
    exact .inl ⟨k1, k2, .inr ⟨o, k3⟩⟩
  · exact .inr h
mutual
theorem rep.tr (ht : ∀ (n : Nat) (a : Addr), θ[n]? = some a → θ'[n]? = some a) (k : Goes av bv θ θ' H H') : ∀ (d : D) (v : V), rep K mg H0 av θ H d v → rep K mg H0 bv θ' H' d v
  | .non, _, h => h
  | .bl _, _, h => h
  | .int _, _, h => h
  | .str _, _, h => h
  | .tup ds, _, ⟨a, xs, e, t, r⟩ => ⟨a, xs, e, t.tr k, repL.tr ht k ds xs r⟩
  | .lst ds, _, ⟨a, xs, e, t, r⟩ => ⟨a, xs, e, t, repL.tr ht k ds xs r⟩
  | .lck ds, _, ⟨a, xs, e, t, r⟩ => ⟨a, xs, e, t, repL.tr ht k ds xs r⟩
  | .fr ds, _, ⟨a, xs, e, n, m, f, t, r⟩ => ⟨a, xs, e, (k a _ n m t).1, (k a _ n m t).2.1, f, (k a _ n m t).2.2, repL.tr ht k ds xs r⟩
  | .new ds, _, ⟨a, xs, e, n, m, f, t, r⟩ => ⟨a, xs, e, (k a _ n m t).1, (k a _ n m t).2.1, f, (k a _ n m t).2.2, repL.tr ht k ds xs r⟩
  | .ref _, _, ⟨a, e, h⟩ => ⟨a, e, ht _ _ h⟩
  | .glob _, _, h => h
  | .ty _, _, h => h
  | .obj _ fs, _, ⟨a, c, dx, vs, e, n, m, hc, t, r⟩ => ⟨a, c, dx, vs, e, (k a _ n m t).1, (k a _ n m t).2.1, hc, (k a _ n m t).2.2, repF.tr ht k fs vs r⟩
  | .bor _ fs, _, ⟨a, c, dx, vs, e, hc, t, r⟩ => ⟨a, c, dx, vs, e, hc, t, repF.tr ht k fs vs r⟩
  | .exh _ _ _ fs, _, ⟨c, vs, e, n, m, hc, t, r⟩ => ⟨c, vs, e, (k _ _ n m t).1, (k _ _ n m t).2.1, hc, (k _ _ n m t).2.2, repF.tr ht k fs vs r⟩
theorem repL.tr (ht : ∀ (n : Nat) (a : Addr), θ[n]? = some a → θ'[n]? = some a) (k : Goes av bv θ θ' H H') : ∀ (ds : List D) (xs : List V), repL K mg H0 av θ H ds xs → repL K mg H0 bv θ' H' ds xs
  | [], _, h => h
  | d :: ds, _, ⟨x, r, e, h, t⟩ => ⟨x, r, e, rep.tr ht k d x h, repL.tr ht k ds r t⟩
theorem repF.tr (ht : ∀ (n : Nat) (a : Addr), θ[n]? = some a → θ'[n]? = some a) (k : Goes av bv θ θ' H H') : ∀ (ds : List (Str × D)) (xs : List (Str × V)), repF K mg H0 av θ H ds xs → repF K mg H0 bv θ' H' ds xs
  | [], _, h => h
  | (_, d) :: ds, _, ⟨x, r, e, h, t⟩ => ⟨x, r, e, rep.tr ht k d x h, repF.tr ht k ds r t⟩
end
theorem repO.tr (ht : ∀ (n : Nat) (a : Addr), θ[n]? = some a → θ'[n]? = some a) (k : Goes av bv θ θ' H H') {mo : MO} {a : Addr} (q : ∀ o, H a = some o → H' a = some o) (h : repO K mg H0 av θ H mo a) : repO K mg H0 bv θ' H' mo a := by
  cases mo with
  | lst ds => obtain ⟨xs, h, r⟩ := h; exact ⟨xs, q _ h, repL.tr ht k _ _ r⟩
  | ins C fs => obtain ⟨c, dx, vs, hc, h, r⟩ := h; exact ⟨c, dx, vs, hc, q _ h, repF.tr ht k _ _ r⟩
theorem Gr.goes (g : Gr θ θ' H H') : Goes av av θ θ' H H' := fun a o n m h => ⟨g.notin n h, m, g.keep a o n h⟩
theorem TupAt.gr (g : Gr θ θ' H H') {a : Addr} {xs : List V} (h : TupAt K av θ H a xs) : TupAt K av θ' H' a xs := h.tr g.goes
theorem rep.gr (g : Gr θ θ' H H') (d : D) (v : V) (h : rep K mg H0 av θ H d v) : rep K mg H0 av θ' H' d v := rep.tr (fun _ _ => g.get) g.goes d v h
theorem repL.gr (g : Gr θ θ' H H') (ds : List D) (xs : List V) (h : repL K mg H0 av θ H ds xs) : repL K mg H0 av θ' H' ds xs := repL.tr (fun _ _ => g.get) g.goes ds xs h
theorem repF.gr (g : Gr θ θ' H H') (ds : List (Str × D)) (xs : List (Str × V)) (h : repF K mg H0 av θ H ds xs) : repF K mg H0 av θ' H' ds xs := repF.tr (fun _ _ => g.get) g.goes ds xs h

/-- what a frame's plain state stands for -/
structure RS (K : PySem.W.Frag) (mg : Mg) (H0 : Hp) (av θ : List Addr) (sd : Sl) (μ : Mem) (σ : L2.St) (H : Hp) : Prop where
  ex : Exh H0 H
  fr : ∀ a ∈ θ, H0 a = none
  nd : θ.Nodup
  len : θ.length = μ.length
  mem : ∀ (n : Nat) (mo : MO) (a : Addr), μ[n]? = some mo → θ[n]? = some a → repO K mg H0 av θ H mo a
  avs : ∀ a ∈ av, a ∉ θ ∧ ∃ o, H a = some o ∧ Mut (some o)
  sl : σ.length = sd.length ∧ ∀ (i : Nat) (d : D), sd[i]? = some (some d) → ∃ v, σ[i]? = some (some v) ∧ rep K mg H0 av θ H d v

theorem repO.is {mo : MO} {a : Addr} (h : repO K mg H0 av θ H mo a) : ∃ o, H a = some o ∧ Mut (some o) := by
  cases mo with
  | lst ds => obtain ⟨xs, h, _⟩ := h; exact ⟨_, h, trivial⟩
  | ins C fs => obtain ⟨c, dx, vs, _, h, _⟩ := h; exact ⟨_, h, trivial⟩
variable {sd : Sl} {μ : Mem} {σ : L2.St}
theorem RS.has (R : RS K mg H0 av θ sd μ σ H) {a : Addr} (h : a ∈ θ) : ∃ o, H a = some o ∧ Mut (some o) := by
  obtain ⟨n, hn, e⟩ := List.getElem_of_mem h
  have hm : n < μ.length := by rw [← R.len]; exact hn
  exact (R.mem n μ[n] a (List.getElem?_eq_getElem hm) (by rw [List.getElem?_eq_getElem hn, e])).is
/-- nothing that stood is gone -/
theorem RS.back {sd' : Sl} {μ' : Mem} {σ' : L2.St} (R : RS K mg H0 av θ' sd' μ' σ' H') (g : Gr θ θ' H H') {a : Addr} (h : H' a = none) : H a = none := by
  by_cases q : a ∈ θ
  · obtain ⟨o, e, _⟩ := R.has (g.mem q)
    rw [h] at e; cases e
  · cases e : H a with
    | none => rfl
    | some o => rw [g.keep a o q e] at h; cases h
theorem repO.gr (g : Gr θ θ' H H') {mo : MO} {a : Addr} (k : ∀ o, H a = some o → H' a = some o) (h : repO K mg H0 av θ H mo a) : repO K mg H0 av θ' H' mo a := repO.tr (fun _ _ => g.get) g.goes k h
/-- a heap that has grown -/
theorem RS.grow (R : RS K mg H0 av θ sd μ σ H) (e : Exh H H') : RS K mg H0 av θ sd μ σ H' where
  ex := R.ex.trans e
  fr := R.fr
  nd := R.nd
  len := R.len
  mem := fun n mo a h1 h2 => (R.mem n mo a h1 h2).gr (Gr.of_ex e) fun o q => e _ _ q
  avs := fun a h => let ⟨n, o, q, m⟩ := R.avs a h; ⟨n, o, e _ _ q, m⟩
  sl := ⟨R.sl.1, fun i d h => let ⟨v, q, r⟩ := R.sl.2 i d h; ⟨v, q, rep.gr (Gr.of_ex e) _ _ r⟩⟩
/-- other slots -/
theorem RS.slots (R : RS K mg H0 av θ sd μ σ H) {sd' : Sl} {σ' : L2.St} (h : σ'.length = sd'.length ∧ ∀ (i : Nat) (d : D), sd'[i]? = some (some d) → ∃ v, σ'[i]? = some (some v) ∧ rep K mg H0 av θ H d v) :
    RS K mg H0 av θ sd' μ σ' H := ⟨R.ex, R.fr, R.nd, R.len, R.mem, R.avs, h⟩
/-- the slots of a state, carried to a later one -/
theorem RS.sls (R : RS K mg H0 av θ sd μ σ H) (g : Gr θ θ' H H') : σ.length = sd.length ∧ ∀ (i : Nat) (d : D), sd[i]? = some (some d) → ∃ v, σ[i]? = some (some v) ∧ rep K mg H0 av θ' H' d v :=
  ⟨R.sl.1, fun i d h => let ⟨v, q, r⟩ := R.sl.2 i d h; ⟨v, q, rep.gr g _ _ r⟩⟩
theorem RS.set (R : RS K mg H0 av θ sd μ σ H) (i : Nat) {d : D} {v : V} (r : rep K mg H0 av θ H d v) : RS K mg H0 av θ (sd.set i (some d)) μ (σ.set i (some v)) H := by
  refine R.slots ⟨by rw [List.length_set, List.length_set]; exact R.sl.1, fun j e h => ?_⟩
  by_cases q : j = i
  · subst q
    have hj : j < sd.length := by
      have := (List.getElem?_eq_some_iff.mp h).1
      rw [List.length_set] at this
      exact this
    rw [List.getElem?_set_self hj] at h
    obtain rfl : d = e := Option.some.inj (Option.some.inj h)
    exact ⟨v, by rw [List.getElem?_set_self (by rw [R.sl.1]; exact hj)], r⟩
  · rw [List.getElem?_set_ne (Ne.symm q)] at h
    rw [List.getElem?_set_ne (Ne.symm q)]
    exact R.sl.2 j e h
theorem RS.unset (R : RS K mg H0 av θ sd μ σ H) (i : Nat) : RS K mg H0 av θ (sd.set i none) μ (σ.set i none) H := by
  refine R.slots ⟨by rw [List.length_set, List.length_set]; exact R.sl.1, fun j e h => ?_⟩
  by_cases q : j = i
  · subst q
    have hj : j < sd.length := by
      have := (List.getElem?_eq_some_iff.mp h).1
      rw [List.length_set] at this
      exact this
    rw [List.getElem?_set_self hj] at h
    cases h
  · rw [List.getElem?_set_ne (Ne.symm q)] at h
    rw [List.getElem?_set_ne (Ne.symm q)]
    exact R.sl.2 j e h
/-! ### more, or less, to be kept away from -/
theorem goes_few (hb : ∀ b ∈ bv, b ∈ av) : Goes av bv θ θ H H := fun a o n m h => ⟨n, fun q => m (hb _ q), h⟩
theorem rep.few (hb : ∀ b ∈ bv, b ∈ av) (d : D) (v : V) (h : rep K mg H0 av θ H d v) : rep K mg H0 bv θ H d v := rep.tr (fun _ _ h => h) (goes_few hb) d v h
theorem repL.few (hb : ∀ b ∈ bv, b ∈ av) (ds : List D) (xs : List V) (h : repL K mg H0 av θ H ds xs) : repL K mg H0 bv θ H ds xs := repL.tr (fun _ _ h => h) (goes_few hb) ds xs h
theorem repO.few (hb : ∀ b ∈ bv, b ∈ av) {mo : MO} {a : Addr} (h : repO K mg H0 av θ H mo a) : repO K mg H0 bv θ H mo a := repO.tr (fun _ _ h => h) (goes_few hb) (fun _ h => h) h
theorem RS.avw (hb : ∀ b ∈ bv, b ∈ av) (R : RS K mg H0 av θ sd μ σ H) : RS K mg H0 bv θ sd μ σ H :=
  ⟨R.ex, R.fr, R.nd, R.len, fun n mo a h1 h2 => (R.mem n mo a h1 h2).few hb, fun a q => R.avs a (hb a q), R.sl.1, fun i d h => let ⟨v, q, r⟩ := R.sl.2 i d h; ⟨v, q, rep.few hb _ _ r⟩⟩

/-- what stands in a heap without p avoids p in any later one -/
theorem goes_push {p : Addr} (g : Gr θ θ' H H') (n : H p = none) : Goes av (p :: av) θ θ' H H' := fun a o m k h => ⟨g.notin m h, fun q => by
  rcases List.mem_cons.mp q with q | q
  · subst q; rw [n] at h; cases h
  · exact k q, g.keep a o m h⟩
theorem rep.push {p : Addr} (g : Gr θ θ' H H') (n : H p = none) (d : D) (v : V) (h : rep K mg H0 av θ H d v) : rep K mg H0 (p :: av) θ' H' d v := rep.tr (fun _ _ => g.get) (goes_push g n) d v h
theorem repL.push {p : Addr} (g : Gr θ θ' H H') (n : H p = none) (ds : List D) (xs : List V) (h : repL K mg H0 av θ H ds xs) : repL K mg H0 (p :: av) θ' H' ds xs := repL.tr (fun _ _ => g.get) (goes_push g n) ds xs h
theorem RS.notin (R : RS K mg H0 av θ sd μ σ H) {p : Addr} (n : H p = none) : p ∉ θ := fun q => by
  obtain ⟨o, e, _⟩ := R.has q
  rw [n] at e; cases e
theorem RS.notav (R : RS K mg H0 av θ sd μ σ H) {p : Addr} (n : H p = none) : p ∉ av := fun q => by
  obtain ⟨_, o, e, _⟩ := R.avs p q
  rw [n] at e; cases e
theorem RS.h0 (R : RS K mg H0 av θ sd μ σ H) {p : Addr} (n : H p = none) : H0 p = none := R.ex.back n
/-- the heap has grown, by a changing object at p among others: all avoid p -/
theorem RS.push (R : RS K mg H0 av θ sd μ σ H) {p : Addr} {o : HO} (e : Exh H H') (n : H p = none) (h : H' p = some o) (m : Mut (some o)) : RS K mg H0 (p :: av) θ sd μ σ H' where
  ex := R.ex.trans e
  fr := R.fr
  nd := R.nd
  len := R.len
  mem := fun k mo a h1 h2 => (R.mem k mo a h1 h2).tr (fun _ _ h => h) (goes_push (Gr.of_ex e) n) fun _ q => e _ _ q
  avs := fun a q => by
    rcases List.mem_cons.mp q with q | q
    · subst q; exact ⟨R.notin n, o, h, m⟩
    · obtain ⟨k, u, hu, mu⟩ := R.avs a q
      exact ⟨k, u, e _ _ hu, mu⟩
  sl := ⟨R.sl.1, fun i d h => let ⟨v, q, r⟩ := R.sl.2 i d h; ⟨v, q, rep.push (Gr.of_ex e) n _ _ r⟩⟩
/-- an avoided object has changed -/
theorem goes_upd {p : Addr} {o : HO} (hp : p ∈ av) : Goes av av θ θ H (upd H p o) := fun a u n m h => ⟨n, m, by rw [upd_ne (fun z => m (by rw [z]; exact hp))]; exact h⟩
theorem RS.updAv (R : RS K mg H0 av θ sd μ σ H) {p : Addr} {o : HO} (hp : p ∈ av) (f : H0 p = none) (m : Mut (some o)) : RS K mg H0 av θ sd μ σ (upd H p o) where
  ex := R.ex.mut f
  fr := R.fr
  nd := R.nd
  len := R.len
  mem := fun k mo a h1 h2 => (R.mem k mo a h1 h2).tr (fun _ _ h => h) (goes_upd hp) fun u q => by
    rw [upd_ne (fun z => (R.avs p hp).1 (by rw [← z]; exact List.mem_of_getElem? h2))]; exact q
  avs := fun a q => by
    obtain ⟨k, u, hu, mu⟩ := R.avs a q
    by_cases z : a = p
    · subst z; exact ⟨k, o, upd_same, m⟩
    · exact ⟨k, u, by rw [upd_ne z]; exact hu, mu⟩
  sl := ⟨R.sl.1, fun i d h => let ⟨v, q, r⟩ := R.sl.2 i d h; ⟨v, q, rep.tr (fun _ _ h => h) (goes_upd hp) _ _ r⟩⟩

/-! ### an avoided object comes into the frame's hands -/
theorem get_app {p : Addr} (n : Nat) (a : Addr) (h : θ[n]? = some a) : (θ ++ [p])[n]? = some a := by
  rw [List.getElem?_append_left (List.getElem?_eq_some_iff.mp h).1]; exact h
theorem goes_take {p : Addr} : Goes (p :: av) av θ (θ ++ [p]) H H := fun a o n m h => ⟨fun q => by
  rcases List.mem_append.mp q with q | q
  · exact n q
  · exact m (by rw [List.mem_singleton.mp q]; exact List.mem_cons_self), fun q => m (List.mem_cons_of_mem _ q), h⟩
theorem rep.take {p : Addr} (d : D) (v : V) (h : rep K mg H0 (p :: av) θ H d v) : rep K mg H0 av (θ ++ [p]) H d v := rep.tr get_app goes_take d v h
theorem repL.take {p : Addr} (ds : List D) (xs : List V) (h : repL K mg H0 (p :: av) θ H ds xs) : repL K mg H0 av (θ ++ [p]) H ds xs := repL.tr get_app goes_take ds xs h
theorem RS.take (R : RS K mg H0 av θ sd μ σ H) {p : Addr} (eb : av = p :: bv) (hp : p ∉ bv) (f : H0 p = none) {mo : MO} (r : repO K mg H0 bv (θ ++ [p]) H mo p) : RS K mg H0 bv (θ ++ [p]) sd (μ ++ [mo]) σ H where
  ex := R.ex
  fr := fun a q => by
    rcases List.mem_append.mp q with q | q
    · exact R.fr a q
    · rw [List.mem_singleton.mp q]; exact f
  nd := List.nodup_append.mpr ⟨R.nd, by simp, fun a h1 b h2 e => (R.avs p (by rw [eb]; exact List.mem_cons_self)).1 (by rw [List.mem_singleton.mp h2] at e; rw [← e]; exact h1)⟩
  len := by rw [List.length_append, List.length_append, R.len]; rfl
  mem := fun k m a h1 h2 => by
    by_cases q : k < μ.length
    · rw [List.getElem?_append_left q] at h1
      rw [List.getElem?_append_left (by rw [R.len]; exact q)] at h2
      have z := R.mem k m a h1 h2
      rw [eb] at z
      exact z.tr get_app goes_take fun _ h => h
    · rw [List.getElem?_append_right (Nat.le_of_not_lt q)] at h1
      rw [List.getElem?_append_right (by rw [R.len]; exact Nat.le_of_not_lt q), R.len] at h2
      have e : k - μ.length = 0 := by
        have := (List.getElem?_eq_some_iff.mp h1).1
        simp at this
        exact this
      rw [e] at h1 h2
      obtain rfl : mo = m := Option.some.inj h1
      obtain rfl : p = a := Option.some.inj h2
      exact r
  avs := fun a q => by
    obtain ⟨n, o, h⟩ := R.avs a (by rw [eb]; exact List.mem_cons_of_mem _ q)
    refine ⟨fun z => ?_, o, h⟩
    rcases List.mem_append.mp z with z | z
    · exact n z
    · rw [List.mem_singleton.mp z] at q
      exact hp q
  sl := ⟨R.sl.1, fun i d h => by
    obtain ⟨v, q, r⟩ := R.sl.2 i d h
    rw [eb] at r
    exact ⟨v, q, rep.take _ _ r⟩⟩
end
end DL
set_option Elab.async false
set_option linter.all false
set_option maxRecDepth 100000
/-! DL, part b: what an expression, a test, a statement does to the plain state, as readings. -/
namespace DL
open PySem PySem.Spec PyProof.Rows L2

abbrev R3 (α : Type) := Option (Except Exn α × Mem)
abbrev EE := Sl → Mem → R3 D
abbrev ET := Sl → Mem → R3 Bool
abbrev EA := Sl → Mem → R3 (List D)
def bE {α β : Type} (m : R3 α) (k : α → Mem → R3 β) : R3 β := match m with
  | none => none
  | some (.error e, μ) => some (.error e, μ)
  | some (.ok x, μ) => k x μ
def ok3 {α : Type} (x : α) (μ : Mem) : R3 α := some (.ok x, μ)
@[simp] theorem bE_ok {α β : Type} (x : α) (μ : Mem) (k : α → Mem → R3 β) : bE (some (.ok x, μ)) k = k x μ := rfl
@[simp] theorem bE_ok3 {α β : Type} (x : α) (μ : Mem) (k : α → Mem → R3 β) : bE (ok3 x μ) k = k x μ := rfl
@[simp] theorem bE_err {α β : Type} (x : Exn) (μ : Mem) (k : α → Mem → R3 β) : bE (some (.error x, μ)) k = some (.error x, μ) := rfl
@[simp] theorem bE_none {α β : Type} (k : α → Mem → R3 β) : bE none k = none := rfl

inductive Flow where
  | nx | ret (d : D) | brk | ct | exc (e : Exn)
abbrev SR := Option (Flow × Sl × Mem)
abbrev SS := Sl → Mem → SR

section
variable (K : PySem.W.Frag) (mg : Mg) (H0 : Hp) (W : WX)
/-- how a plain result stands for a result: avoided, owned, the heaps ahead and behind, what is new and avoided -/
abbrev Rel (α β : Type) := List Addr → List Addr → Hp → Hp → List Addr → α → β → Prop
def relD : Rel D V := fun av θ H H' nv d v => rep K mg H0 av θ H' d v ∧ ∀ ds, d = .new ds → ∃ p xs, v = .ref p ∧ nv = [p] ∧ H p = none ∧ H' p = some (.lst xs) ∧ repL K mg H0 (p :: av) θ H' ds xs
def relB : Rel Bool Bool := fun _ _ _ _ _ b c => c = b
def relA : Rel (List D) (List V) := fun av θ _ H' _ ds vs => repL K mg H0 av θ H' ds vs
def Post {α β : Type} (rel : Rel α β) (av θ : List Addr) (sd : Sl) (σ : L2.St) (H : Hp) (Q : β → Hp → Prop) (o : R3 α) : Prop := match o with
  | none => False
  | some (.ok x, μ') => ∀ (y : β) (θ' : List Addr) (H' : Hp) (nv : List Addr), Gr θ θ' H H' → RS K mg H0 (nv ++ av) θ' sd μ' σ H' → rel av θ' H H' nv x y → Q y H'
  | some (.error e, μ') => ∀ (cls : Value) (dd : Option Addr) (θ' : List Addr) (H' : Hp), Gr θ θ' H H' → RS K mg H0 av θ' sd μ' σ H' → repX K mg H0 av θ' H' e cls dd → W cls dd σ H'
def tE (f : EE) : TE := fun σ H Q => ∃ av θ sd μ, RS K mg H0 av θ sd μ σ H ∧ Post K mg H0 W (relD K mg H0) av θ sd σ H Q (f sd μ)
def tT (f : ET) : TT := fun σ H Q => ∃ av θ sd μ, RS K mg H0 av θ sd μ σ H ∧ Post K mg H0 W relB av θ sd σ H Q (f sd μ)
def tA (f : EA) : TA := fun σ H Q => ∃ av θ sd μ, RS K mg H0 av θ sd μ σ H ∧ Post K mg H0 W (relA K mg H0) av θ sd σ H Q (f sd μ)
def PostS (av θ : List Addr) (H : Hp) (E : Ends) (o : SR) : Prop := match o with
  | none => False
  | some (.nx, sd', μ') => ∀ σ' θ' H', Gr θ θ' H H' → RS K mg H0 av θ' sd' μ' σ' H' → E.nx σ' H'
  | some (.brk, sd', μ') => ∀ σ' θ' H', Gr θ θ' H H' → RS K mg H0 av θ' sd' μ' σ' H' → E.bk σ' H'
  | some (.ct, sd', μ') => ∀ σ' θ' H', Gr θ θ' H H' → RS K mg H0 av θ' sd' μ' σ' H' → E.ct σ' H'
  | some (.ret d, _, _) => ∀ v H', Exh H0 H' → repR K mg H0 av H' d v → E.rt v H'
  | some (.exc e, sd', μ') => ∀ cls dd σ' θ' H', Gr θ θ' H H' → RS K mg H0 av θ' sd' μ' σ' H' → repX K mg H0 av θ' H' e cls dd → W cls dd σ' H'
def tS (f : SS) : TS := fun E σ H => ∃ av θ sd μ, RS K mg H0 av θ sd μ σ H ∧ PostS K mg H0 W av θ H E (f sd μ)
end

/-- nothing is let out -/
abbrev WF : WX := fun _ _ _ _ => False

section
variable {K : PySem.W.Frag} {mg : Mg} {H0 : Hp} {W : WX} {av θ θ1 : List Addr} {sd : Sl} {μ μ1 : Mem} {σ : L2.St} {H H1 : Hp}
/-- a relation that asks no more of an earlier start -/
def Anti {α β : Type} (rel : Rel α β) : Prop := ∀ av θ (H H1 H' : Hp) nv x y, (∀ a, H1 a = none → H a = none) → rel av θ H1 H' nv x y → rel av θ H H' nv x y
theorem antiD : Anti (relD K mg H0) := fun _ _ _ _ _ _ _ _ h ⟨r, n⟩ => ⟨r, fun ds e => let ⟨p, xs, a, b, c, f⟩ := n ds e; ⟨p, xs, a, b, h _ c, f⟩⟩
theorem antiB : Anti relB := fun _ _ _ _ _ _ _ _ _ r => r
theorem antiA : Anti (relA K mg H0) := fun _ _ _ _ _ _ _ _ _ r => r
theorem RS.plain {nv : List Addr} (R : RS K mg H0 (nv ++ av) θ sd μ σ H) : RS K mg H0 av θ sd μ σ H := R.avw fun b h => List.mem_append_right _ h
theorem Post.rebase {α β : Type} {rel : Rel α β} {Q : β → Hp → Prop} {o : R3 α} (an : Anti rel) (P : Post K mg H0 W rel av θ sd σ H Q o) (g : Gr θ θ1 H H1) (R : RS K mg H0 av θ1 sd μ1 σ H1) :
    Post K mg H0 W rel av θ1 sd σ H1 Q o := by
  match o, P with
  | some (.ok x, μ'), P => exact fun y θ' H' nv g' R' r => P y θ' H' nv (g.trans g') R' (an _ _ _ _ _ _ _ _ (fun a h => R.back g h) r)
  | some (.error e, μ'), P => exact fun cls dd θ' H' g' R' r => P cls dd θ' H' (g.trans g') R' r
theorem Post.bind {α β γ δ : Type} {rel : Rel α β} {rel1 : Rel γ δ} {Q : β → Hp → Prop} {Q1 : δ → Hp → Prop} {m : R3 γ} {k : γ → Mem → R3 α} (an : Anti rel) (P : Post K mg H0 W rel av θ sd σ H Q (bE m k))
    (h : ∀ (x : γ) (μ1 : Mem) (y : δ) (θ1 : List Addr) (H1 : Hp) (nv : List Addr), Gr θ θ1 H H1 → RS K mg H0 (nv ++ av) θ1 sd μ1 σ H1 → rel1 av θ1 H H1 nv x y → Post K mg H0 W rel av θ1 sd σ H1 Q (k x μ1) → Q1 y H1) :
    Post K mg H0 W rel1 av θ sd σ H Q1 m := by
  match m, P with
  | some (.ok x, μ'), P =>
    exact fun y θ' H' nv g R r => h x μ' y θ' H' nv g R r (Post.rebase an (show Post K mg H0 W rel av θ sd σ H Q (k x μ') from P) g R.plain)
  | some (.error e, μ'), P => exact P
theorem PostS.rebase {E : Ends} {o : SR} (P : PostS K mg H0 W av θ H E o) (g : Gr θ θ1 H H1) : PostS K mg H0 W av θ1 H1 E o := by
  match o, P with
  | some (.nx, _, _), P => exact fun σ' θ' H' g' R => P σ' θ' H' (g.trans g') R
  | some (.brk, _, _), P => exact fun σ' θ' H' g' R => P σ' θ' H' (g.trans g') R
  | some (.ct, _, _), P => exact fun σ' θ' H' g' R => P σ' θ' H' (g.trans g') R
  | some (.ret d, _, _), P => exact P
  | some (.exc e, _, _), P => exact fun cls dd σ' θ' H' g' R r => P cls dd σ' θ' H' (g.trans g') R r

variable {X : Cx} {e : Expr} {es : List Expr} {st : Stmt} {sts : List Stmt}
theorem wkE {t t' : TE} (h : PE X e t) (w : ∀ σ H Q, t' σ H Q → t σ H Q) : PE X e t' := ⟨fun pins s σ H Q I q => h.run pins s σ H Q I (w σ H Q q)⟩
theorem wkT {t t' : TT} (h : PT X e t) (w : ∀ σ H Q, t' σ H Q → t σ H Q) : PT X e t' := ⟨fun pins s σ H Q I q => h.run pins s σ H Q I (w σ H Q q)⟩
theorem wkW {t t' : TT} (h : PW X e t) (w : ∀ σ H Q, t' σ H Q → t σ H Q) : PW X e t' := ⟨fun wh pins s σ H Q I q => h.run wh pins s σ H Q I (w σ H Q q)⟩
theorem wkA {t t' : TA} (h : PA X es t) (w : ∀ σ H Q, t' σ H Q → t σ H Q) : PA X es t' := ⟨fun pos pins s σ H Q I q => h.run pos pins s σ H Q I (w σ H Q q)⟩
theorem wkS {t t' : TS} (h : PS X st t) (w : ∀ E σ H, t' E σ H → t E σ H) : PS X st t' := ⟨fun pins s σ H E I q => h.run pins s σ H E I (w E σ H q)⟩
theorem wkSs {t t' : TS} (h : PSs X sts t) (w : ∀ E σ H, t' E σ H → t E σ H) : PSs X sts t' := ⟨fun pins s σ H E I q => h.run pins s σ H E I (w E σ H q)⟩

/-! ### the parts, as plain functions -/
def eC (d : D) : EE := fun _ μ => some (.ok d, μ)
def eV (i : Nat) : EE := fun sd μ => match sd[i]? with
  | some (some (.new _)) => none
  | some (some d) => some (.ok d, μ)
  | _ => none
/-- a list just made is taken into the frame's hands -/
def eOwn (f : EE) : EE := fun sd μ => match f sd μ with
  | some (.ok (.new ds), μ1) => some (.ok (.ref μ1.length), μ1 ++ [.lst ds])
  | r => r
def eBin (g : Mem → D → D → Option D) (fa fb : EE) : EE := fun sd μ => bE (fa sd μ) fun x μ1 => bE (fb sd μ1) fun y μ2 => (g μ2 x y).map fun d => (.ok d, μ2)
def eUn (g : Mem → D → Option D) (fa : EE) : EE := fun sd μ => bE (fa sd μ) fun x μ1 => (g μ1 x).map fun d => (.ok d, μ1)
def eNil : EA := fun _ μ => some (.ok [], μ)
def eCons (f : EE) (g : EA) : EA := fun sd μ => bE (f sd μ) fun d μ1 => bE (g sd μ1) fun ds μ2 => some (.ok (d :: ds), μ2)
/-- a built-in called -/
def eCB (g : Mem → List D → Option D) (fa : EA) : EE := fun sd μ => bE (fa sd μ) fun xs μ1 => (g μ1 xs).map fun d => (.ok d, μ1)
def eTup (f : EA) : EE := fun sd μ => bE (f sd μ) fun ds μ1 => if ds.length ≤ sizeLine then some (.ok (.tup ds), μ1) else none
def eLst (f : EA) : EE := fun sd μ => bE (f sd μ) fun ds μ1 => if ds.length ≤ sizeLine then some (.ok (.new ds), μ1) else none
def eIf (t : ET) (fa fb : EE) : EE := fun sd μ => bE (t sd μ) fun b μ1 => if b then fa sd μ1 else fb sd μ1
def eAnd (fa fb : EE) : EE := fun sd μ => bE (fa sd μ) fun x μ1 => match x with
  | .bl true => fb sd μ1
  | .bl false => some (.ok (.bl false), μ1)
  | _ => none
def eOr (fa fb : EE) : EE := fun sd μ => bE (fa sd μ) fun x μ1 => match x with
  | .bl true => some (.ok (.bl true), μ1)
  | .bl false => fb sd μ1
  | _ => none
def eNot (fa : EE) : EE := fun sd μ => bE (fa sd μ) fun x μ1 => match x with
  | .bl b => some (.ok (.bl (!b)), μ1)
  | _ => none
/-- a test that is a True or False -/
def qB (f : EE) : ET := fun sd μ => bE (f sd μ) fun x μ1 => match x with
  | .bl b => some (.ok b, μ1)
  | _ => none
def qAnd (t u : ET) : ET := fun sd μ => bE (t sd μ) fun b μ1 => if b then u sd μ1 else some (.ok false, μ1)
def qOr (t u : ET) : ET := fun sd μ => bE (t sd μ) fun b μ1 => if b then some (.ok true, μ1) else u sd μ1
def qNot (t : ET) : ET := fun sd μ => bE (t sd μ) fun b μ1 => some (.ok (!b), μ1)

/-! ### names and constants -/
theorem pd_var (i : Nat) {x : Str} {pos : Pos} (hN : X.N[i]? = some x := by rfl) (hv : Vis X.env.scope x := by first | exact Or.inl rfl | exact Or.inr (Or.inl rfl) | exact Or.inr (Or.inr rfl))
    (hd : (x == ("__debug__" : Str)) = false := by decide) (hcd : (x == ("__classdict__" : Str)) = false := by decide) : PE X (.Name x pos) (tE K mg H0 W (eV i)) := by
  refine wkE (pe_var hN hv hd hcd) fun σ H Q ⟨av, θ, sd, μ, R, P⟩ => ?_
  unfold eV at P
  cases h : sd[i]? with
  | none => rw [h] at P; exact P.elim
  | some o =>
    cases o with
    | none => rw [h] at P; exact P.elim
    | some d =>
      rw [h] at P
      obtain ⟨v, hv, r⟩ := R.sl.2 i d h
      refine ⟨v, hv, ?_⟩
      cases d with
      | new ds => exact P.elim
      | _ => exact P v θ H [] Gr.refl R ⟨r, fun _ e => by cases e⟩
theorem pd_c {d : D} {v : V} (h : PE X e (tC v)) (hr : ∀ av θ (H : Hp), rep K mg H0 av θ H d v) (hn : ∀ ds, d ≠ .new ds) : PE X e (tE K mg H0 W (eC d)) :=
  wkE h fun _ H _ ⟨av, θ, sd, μ, R, P⟩ => P v θ H [] Gr.refl R ⟨hr av θ H, fun ds e => absurd e (hn ds)⟩
theorem pd_int {i j pos} : PE X (.Constant (.int i) j pos) (tE K mg H0 W (eC (.int i))) := pd_c pe_int (fun _ _ _ => rfl) (fun _ => by intro e; cases e)
theorem pd_bl {b j pos} : PE X (.Constant (.bool b) j pos) (tE K mg H0 W (eC (.bl b))) := pd_c pe_bl (fun _ _ _ => rfl) (fun _ => by intro e; cases e)
theorem pd_non {j pos} : PE X (.Constant .none j pos) (tE K mg H0 W (eC .non)) := pd_c pe_non (fun _ _ _ => rfl) (fun _ => by intro e; cases e)
theorem pd_str {x j pos} : PE X (.Constant (.str x) j pos) (tE K mg H0 W (eC (.str x))) := pd_c pe_str (fun _ _ _ => rfl) (fun _ => by intro e; cases e)
/-- a module's constant -/
theorem pd_glob {x : Str} {u : Value} {v : V} {d : D} {pos : Pos} (hg : Gl X x) (hm : X.mg x = some u) (r : RelV v u) (hr : ∀ av θ (H : Hp), rep K mg H0 av θ H d v) (hn : ∀ ds, d ≠ .new ds) (hd : (x == ("__debug__" : Str)) = false := by decide) :
    PE X (.Name x pos) (tE K mg H0 W (eC d)) := pd_c (pe_glob hg hm r hd) hr hn
/-- taken into the frame's hands -/
theorem own_read {f : EE} {Q : VK} (hh : tE K mg H0 W (eOwn f) σ H Q) : tE K mg H0 W f σ H Q := by
  obtain ⟨av, θ, sd, μ, R, P⟩ := hh
  refine ⟨av, θ, sd, μ, R, ?_⟩
  unfold eOwn at P
  cases q : f sd μ with
  | none => rw [q] at P; exact P
  | some z =>
    obtain ⟨r, μ1⟩ := z
    cases r with
    | error e => rw [q] at P; exact P
    | ok d =>
      cases d with
      | new ds =>
        rw [q] at P
        intro v θ' H' nv g R' ⟨r, fn⟩
        obtain ⟨p, xs, rfl, rfl, hp, hl, rl⟩ := fn ds rfl
        obtain ⟨a, _, ea, n, m, f0, _, _⟩ := r
        cases ea
        have hgr : Gr θ (θ' ++ [p]) H H' := ⟨g.pre.trans (List.prefix_append _ _), fun b hb nb => by
          rcases List.mem_append.mp hb with z | z
          · exact g.nw b z nb
          · rw [List.mem_singleton.mp z]; exact hp, g.keep⟩
        have R2 : RS K mg H0 av (θ' ++ [p]) sd (μ1 ++ [.lst ds]) σ H' := R'.take rfl m f0 ⟨xs, hl, repL.take _ _ rl⟩
        refine P (.ref p) (θ' ++ [p]) H' [] hgr R2 ⟨⟨p, rfl, ?_⟩, fun _ e => by cases e⟩
        rw [← R'.len]
        simp
      | _ => rw [q] at P; exact P
theorem pd_own {f : EE} (h : PE X e (tE K mg H0 W f)) : PE X e (tE K mg H0 W (eOwn f)) := wkE h fun σ H Q q => own_read q

/-! ### operators, calls by values -/
section
variable (X : Cx)
/-- what is asked of a value's rule: from plain values to the wish -/
def Asks (H0 : Hp) (av θ : List Addr) (sd : Sl) (μ : Mem) (σ : L2.St) (H : Hp) (d : D) (Q : VK) : Prop :=
  ∀ v H' nv, Exh H H' → RS X.K X.mg H0 (nv ++ av) θ sd μ σ H' → relD X.K X.mg H0 av θ H H' nv d v → Q v H'
def OpD (f : Value → Value → Sem Value) (g : Mem → D → D → Option D) : Prop := ∀ H0 : Hp, ∃ r : R2, OpR X f r ∧
  ∀ (av θ : List Addr) (sd : Sl) (μ : Mem) (σ : L2.St) (H : Hp) (dx dy : D) (x y : V) (d : D) (Q : VK), RS X.K X.mg H0 av θ sd μ σ H → rep X.K X.mg H0 av θ H dx x → rep X.K X.mg H0 av θ H dy y → g μ dx dy = some d → Asks X H0 av θ sd μ σ H d Q → r x y H Q
def UnD (f : Value → Sem Value) (g : Mem → D → Option D) : Prop := ∀ H0 : Hp, ∃ r : V → Hp → VK → Prop, UnR X f r ∧
  ∀ (av θ : List Addr) (sd : Sl) (μ : Mem) (σ : L2.St) (H : Hp) (dx : D) (x : V) (d : D) (Q : VK), RS X.K X.mg H0 av θ sd μ σ H → rep X.K X.mg H0 av θ H dx x → g μ dx = some d → Asks X H0 av θ sd μ σ H d Q → r x H Q
def CallD (f : Value) (g : Mem → List D → Option D) : Prop := ∀ H0 : Hp, ∃ r : List V → Hp → VK → Prop, CallR X f r ∧
  ∀ (av θ : List Addr) (sd : Sl) (μ : Mem) (σ : L2.St) (H : Hp) (ds : List D) (xs : List V) (d : D) (Q : VK), RS X.K X.mg H0 av θ sd μ σ H → repL X.K X.mg H0 av θ H ds xs → g μ ds = some d → Asks X H0 av θ sd μ σ H d Q → r xs H Q
/-- a value's method, that changes nothing -/
def MtD (id : String) (g : Mem → D → List D → Option D) : Prop := ∀ H0 : Hp, ∃ r : V → List V → Hp → VK → Prop, MtR X id r ∧
  ∀ (av θ : List Addr) (sd : Sl) (μ : Mem) (σ : L2.St) (H : Hp) (dx : D) (x : V) (ds : List D) (xs : List V) (d : D) (Q : VK), RS X.K X.mg H0 av θ sd μ σ H → rep X.K X.mg H0 av θ H dx x → repL X.K X.mg H0 av θ H ds xs → g μ dx ds = some d →
    Asks X H0 av θ sd μ σ H d Q → r x xs H Q
def IxD (g : Mem → D → D → Option D) : Prop := ∀ H0 : Hp, ∃ r : R2, IxR X r ∧
  ∀ (av θ : List Addr) (sd : Sl) (μ : Mem) (σ : L2.St) (H : Hp) (dx dy : D) (x y : V) (d : D) (Q : VK), RS X.K X.mg H0 av θ sd μ σ H → rep X.K X.mg H0 av θ H dx x → rep X.K X.mg H0 av θ H dy y → g μ dx dy = some d → Asks X H0 av θ sd μ σ H d Q → r x y H Q
end
theorem Asks.same {d : D} {v : V} {Q : VK} (h : Asks X H0 av θ sd μ σ H d Q) (R : RS X.K X.mg H0 av θ sd μ σ H) (r : rep X.K X.mg H0 av θ H d v) (n : ∀ ds, d ≠ .new ds) : Q v H :=
  h v H [] (Exh.refl H) R ⟨r, fun ds e => absurd e (n ds)⟩
/-- a new tuple -/
theorem Asks.tup {ds : List D} {xs : List V} {p : Addr} {Q : VK} (h : Asks X H0 av θ sd μ σ H (.tup ds) Q) (R : RS X.K X.mg H0 av θ sd μ σ H) (r : repL X.K X.mg H0 av θ H ds xs) (hp : H p = none) : Q (.ref p) (upd H p (.tup xs)) :=
  h _ _ [] (Exh.new hp) (R.grow (Exh.new hp)) ⟨⟨p, xs, rfl, .inl ⟨R.notin hp, R.notav hp, .inl upd_same⟩, repL.gr (Gr.of_ex (Exh.new hp)) _ _ r⟩, fun _ e => by cases e⟩
theorem repL.grH {ds : List D} {xs : List V} {H' : Hp} (g : Gr θ θ1 H H') (r : repL K mg H0 av θ H ds xs) : repL K mg H0 av θ1 H' ds xs := repL.gr g ds xs r
/-- a new list -/
theorem Asks.lst {ds : List D} {xs : List V} {p : Addr} {Q : VK} (h : Asks X H0 av θ sd μ σ H (.new ds) Q) (R : RS X.K X.mg H0 av θ sd μ σ H) (r : repL X.K X.mg H0 av θ H ds xs) (hp : H p = none) : Q (.ref p) (upd H p (.lst xs)) :=
  h _ _ [p] (Exh.new hp) (R.push (Exh.new hp) hp upd_same trivial)
    ⟨⟨p, xs, rfl, R.notin hp, R.notav hp, R.h0 hp, upd_same, repL.grH (Gr.of_ex (Exh.new hp)) r⟩, fun ds' e => by cases e; exact ⟨p, xs, rfl, rfl, hp, upd_same, repL.push (Gr.of_ex (Exh.new hp)) hp _ _ r⟩⟩
theorem OpD.or {f : Value → Value → Sem Value} {g g' : Mem → D → D → Option D} (h : OpD X f g) (h' : OpD X f g') : OpD X f (fun μ x y => (g μ x y).or (g' μ x y)) := fun H0 => by
  obtain ⟨r, hr, k⟩ := h H0
  obtain ⟨r', hr', k'⟩ := h' H0
  refine ⟨_, OpR.or hr hr', fun av θ sd μ σ H dx dy x y d Q R rx ry e q => ?_⟩
  have e : (g μ dx dy).or (g' μ dx dy) = some d := e
  cases z : g μ dx dy with
  | some u =>
    rw [z] at e
    obtain rfl : u = d := Option.some.inj e
    exact .inl (k av θ sd μ σ H dx dy x y u Q R rx ry z q)
  | none =>
    rw [z] at e
    exact .inr (k' av θ sd μ σ H dx dy x y d Q R rx ry e q)
theorem CallD.or {f : Value} {g g' : Mem → List D → Option D} (h : CallD X f g) (h' : CallD X f g') : CallD X f (fun μ x => (g μ x).or (g' μ x)) := fun H0 => by
  obtain ⟨r, hr, k⟩ := h H0
  obtain ⟨r', hr', k'⟩ := h' H0
  refine ⟨_, CallR.or hr hr', fun av θ sd μ σ H dx x d Q R rx e q => ?_⟩
  have e : (g μ dx).or (g' μ dx) = some d := e
  cases z : g μ dx with
  | some u =>
    rw [z] at e
    obtain rfl : u = d := Option.some.inj e
    exact .inl (k av θ sd μ σ H dx x u Q R rx z q)
  | none =>
    rw [z] at e
    exact .inr (k' av θ sd μ σ H dx x d Q R rx e q)

variable {a b c : Expr} {pos : Pos} {fa fb fc : EE} {ga : EA} {ta tb : ET}
theorem Post.ask {o : Option D} {Q : VK} (P : Post X.K X.mg H0 W (relD X.K X.mg H0) av θ sd σ H Q (o.map fun d => (Except.ok d, μ))) : ∃ d, o = some d ∧ Asks X H0 av θ sd μ σ H d Q := by
  cases o with
  | none => exact P.elim
  | some d => exact ⟨d, rfl, fun v H' nv e R r => P v θ H' nv (Gr.of_ex e) R r⟩
theorem repG {d : D} {v : V} {H' : Hp} (g : Gr θ θ1 H H') (r : rep K mg H0 av θ H d v) : rep K mg H0 av θ1 H' d v := rep.gr g d v r
theorem pd_bin {op : Operator} {g : Mem → D → D → Option D} (ho : OpD X (binaryOp op) g) (ha : PE X a (tE X.K X.mg H0 W fa)) (hb : PE X b (tE X.K X.mg H0 W fb)) : PE X (.BinOp a op b pos) (tE X.K X.mg H0 W (eBin g fa fb)) := by
  obtain ⟨r, hr, k⟩ := ho H0
  refine wkE (pe_op hr ha hb) fun σ H Q ⟨av, θ, sd, μ, R, P⟩ => ⟨av, θ, sd, μ, R, P.bind antiD fun x μ1 v θ1 H1 nv g1 R1 r1 P1 => ?_⟩
  refine ⟨av, θ1, sd, μ1, R1.plain, P1.bind antiD fun y μ2 w θ2 H2 nw g2 R2 r2 P2 => ?_⟩
  obtain ⟨d, hd, q⟩ := P2.ask
  exact k av θ2 sd μ2 σ H2 x y v w d Q R2.plain (repG g2 r1.1) r2.1 hd q
theorem pd_cmp {op : CmpOp} {g : Mem → D → D → Option D} (ho : OpD X (compareOp op) g) (ha : PE X a (tE X.K X.mg H0 W fa)) (hb : PE X b (tE X.K X.mg H0 W fb)) (hm : behindInMarks op b = false) : PE X (.Compare a [op] [b] pos) (tE X.K X.mg H0 W (eBin g fa fb)) := by
  obtain ⟨r, hr, k⟩ := ho H0
  refine wkE (pe_cmpR hr ha hb hm) fun σ H Q ⟨av, θ, sd, μ, R, P⟩ => ⟨av, θ, sd, μ, R, P.bind antiD fun x μ1 v θ1 H1 nv g1 R1 r1 P1 => ?_⟩
  refine ⟨av, θ1, sd, μ1, R1.plain, P1.bind antiD fun y μ2 w θ2 H2 nw g2 R2 r2 P2 => ?_⟩
  obtain ⟨d, hd, q⟩ := P2.ask
  exact k av θ2 sd μ2 σ H2 x y v w d Q R2.plain (repG g2 r1.1) r2.1 hd q
end
end DL
set_option Elab.async false
set_option linter.all false
set_option maxRecDepth 100000
/-! DL, part c: expressions and tests. -/
namespace DL
open PySem PySem.Spec PyProof.Rows L2
section
variable {K : PySem.W.Frag} {mg : Mg} {H0 : Hp} {W : WX} {X : Cx} {a b c e : Expr} {es rest : List Expr} {pos : Pos} {fa fb fc f : EE} {ga g : EA} {ta tb t u : ET}
theorem pd_un {op : UnaryOp} {g : Mem → D → Option D} (ho : UnD X (unaryOp op) g) (ha : PE X a (tE X.K X.mg H0 W fa)) : PE X (.UnaryOp op a pos) (tE X.K X.mg H0 W (eUn g fa)) := by
  obtain ⟨r, hr, k⟩ := ho H0
  refine wkE (pe_un hr ha) fun σ H Q ⟨av, θ, sd, μ, R, P⟩ => ⟨av, θ, sd, μ, R, P.bind antiD fun x μ1 v θ1 H1 nv g1 R1 r1 P1 => ?_⟩
  obtain ⟨d, hd, q⟩ := P1.ask
  exact k av θ1 sd μ1 σ H1 x v d Q R1.plain r1.1 hd q
/-! ### arguments -/
theorem pd_nil : PA X [] (tA X.K X.mg H0 W eNil) := wkA pa_nil fun σ H Q ⟨av, θ, sd, μ, R, P⟩ => P [] θ H [] Gr.refl R rfl
theorem pd_cons (ha : PE X e (tE X.K X.mg H0 W f)) (hr : PA X es (tA X.K X.mg H0 W g)) (hs : starEach (e :: es) X.env = (false, eval e X.env) :: starEach es X.env := by rfl) : PA X (e :: es) (tA X.K X.mg H0 W (eCons f g)) := by
  refine wkA (pa_cons ha hr hs) fun σ H Q ⟨av, θ, sd, μ, R, P⟩ => ⟨av, θ, sd, μ, R, P.bind antiA fun x μ1 v θ1 H1 nv g1 R1 r1 P1 => ?_⟩
  refine ⟨av, θ1, sd, μ1, R1.plain, P1.bind (rel1 := relA X.K X.mg H0) antiA fun ds μ2 vs θ2 H2 nw g2 R2 r2 P2 => ?_⟩
  exact P2 (v :: vs) θ2 H2 [] Gr.refl R2.plain ⟨v, vs, rfl, repG g2 r1.1, r2⟩
theorem Post.tup {av θ : List Addr} {sd : Sl} {μ : Mem} {σ : L2.St} {H : Hp} {Q : VK} {ds : List D} {xs : List V} (R : RS X.K X.mg H0 av θ sd μ σ H) (r : repL X.K X.mg H0 av θ H ds xs)
    (P : Post X.K X.mg H0 W (relD X.K X.mg H0) av θ sd σ H Q (some (.ok (.tup ds), μ))) {p : Addr} (hp : H p = none) : Q (.ref p) (upd H p (.tup xs)) :=
  Asks.tup (fun v H' nv e R r => P v θ H' nv (Gr.of_ex e) R r) R r hp
theorem Post.lst {av θ : List Addr} {sd : Sl} {μ : Mem} {σ : L2.St} {H : Hp} {Q : VK} {ds : List D} {xs : List V} (R : RS X.K X.mg H0 av θ sd μ σ H) (r : repL X.K X.mg H0 av θ H ds xs)
    (P : Post X.K X.mg H0 W (relD X.K X.mg H0) av θ sd σ H Q (some (.ok (.new ds), μ))) {p : Addr} (hp : H p = none) : Q (.ref p) (upd H p (.lst xs)) :=
  Asks.lst (fun v H' nv e R r => P v θ H' nv (Gr.of_ex e) R r) R r hp
theorem repL.length {av θ : List Addr} {H : Hp} : ∀ {ds : List D} {xs : List V}, repL K mg H0 av θ H ds xs → xs.length = ds.length
  | [], xs, h => by
    have h : xs = [] := h
    rw [h]
    rfl
  | d :: ds, _, ⟨x, r, e, _, t⟩ => by rw [e, List.length_cons, List.length_cons, repL.length t]
theorem pd_tup {k : Nat} (h : PA X es (tA X.K X.mg H0 W g)) : PE X (.Tuple es k pos) (tE X.K X.mg H0 W (eTup g)) := by
  refine wkE (pe_tup h) fun σ H Q ⟨av, θ, sd, μ, R, P⟩ => ⟨av, θ, sd, μ, R, P.bind antiD fun ds μ1 vs θ1 H1 nv g1 R1 r1 P1 => ?_⟩
  by_cases z : ds.length ≤ sizeLine
  · rw [if_pos z] at P1
    exact ⟨by rw [repL.length r1]; exact z, fun p hp => P1.tup R1.plain r1 hp⟩
  · rw [if_neg z] at P1; exact P1.elim
theorem pd_lst (h : PA X es (tA X.K X.mg H0 W g)) : PE X (.List es pos) (tE X.K X.mg H0 W (eLst g)) := by
  refine wkE (pe_lst h) fun σ H Q ⟨av, θ, sd, μ, R, P⟩ => ⟨av, θ, sd, μ, R, P.bind antiD fun ds μ1 vs θ1 H1 nv g1 R1 r1 P1 => ?_⟩
  by_cases z : ds.length ≤ sizeLine
  · rw [if_pos z] at P1
    exact ⟨by rw [repL.length r1]; exact z, fun p hp => P1.lst R1.plain r1 hp⟩
  · rw [if_neg z] at P1; exact P1.elim
/-! ### built-ins -/
theorem pd_callB {x : Str} {id : String} {p : Pos} {gg : Mem → List D → Option D} (hc : CallD X (.builtin id) gg) (hg : Gl X x) (hm : X.mg x = none) (hv : bootBuiltins x = some (.builtin id)) (ha : PA X (e :: es) (tA X.K X.mg H0 W g))
    (hn : x ≠ "__name__" := by decide) (hdb : (x == ("__debug__" : Str)) = false := by decide) (he : starEach (e :: es) X.env = (false, eval e X.env) :: starEach es X.env := by rfl) (hpl : (backTo pos (starEach es X.env)).any (·.1) = false := by rfl) :
    PE X (.Call (.Name x p) (e :: es) [] pos) (tE X.K X.mg H0 W (eCB gg g)) := by
  obtain ⟨r, hr, k⟩ := hc H0
  refine wkE (pe_callB hr hg hm hv ha hn hdb he hpl) fun σ H Q ⟨av, θ, sd, μ, R, P⟩ => ⟨av, θ, sd, μ, R, P.bind antiD fun ds μ1 vs θ1 H1 nv g1 R1 r1 P1 => ?_⟩
  obtain ⟨d, hd, q⟩ := P1.ask
  exact k av θ1 sd μ1 σ H1 ds vs d Q R1.plain r1 hd q
theorem pd_callTy {x : Str} {T : String} {p : Pos} {gg : Mem → List D → Option D} (hc : CallD X (.type T) gg) (hg : Gl X x) (hm : X.mg x = none) (hv : bootBuiltins x = some (.type T)) (ha : PA X (e :: es) (tA X.K X.mg H0 W g))
    (hn : x ≠ "__name__" := by decide) (hdb : (x == ("__debug__" : Str)) = false := by decide) (he : starEach (e :: es) X.env = (false, eval e X.env) :: starEach es X.env := by rfl) (hpl : (backTo pos (starEach es X.env)).any (·.1) = false := by rfl) :
    PE X (.Call (.Name x p) (e :: es) [] pos) (tE X.K X.mg H0 W (eCB gg g)) := by
  obtain ⟨r, hr, k⟩ := hc H0
  refine wkE (pe_callTy hr hg hm hv ha hn hdb he hpl) fun σ H Q ⟨av, θ, sd, μ, R, P⟩ => ⟨av, θ, sd, μ, R, P.bind antiD fun ds μ1 vs θ1 H1 nv g1 R1 r1 P1 => ?_⟩
  obtain ⟨d, hd, q⟩ := P1.ask
  exact k av θ1 sd μ1 σ H1 ds vs d Q R1.plain r1 hd q
/-! ### places, slices -/
theorem pd_ix {gg : Mem → D → D → Option D} (hr : IxD X gg) (ha : PE X a (tE X.K X.mg H0 W fa)) (hb : PE X b (tE X.K X.mg H0 W fb)) (hs : PlainIx b) : PE X (.Subscript a b pos) (tE X.K X.mg H0 W (eBin gg fa fb)) := by
  obtain ⟨r, hr, k⟩ := hr H0
  refine wkE (pe_ix hr ha hb hs) fun σ H Q ⟨av, θ, sd, μ, R, P⟩ => ⟨av, θ, sd, μ, R, P.bind antiD fun x μ1 v θ1 H1 nv g1 R1 r1 P1 => ?_⟩
  refine ⟨av, θ1, sd, μ1, R1.plain, P1.bind antiD fun y μ2 w θ2 H2 nw g2 R2 r2 P2 => ?_⟩
  obtain ⟨d, hd, q⟩ := P2.ask
  exact k av θ2 sd μ2 σ H2 x y v w d Q R2.plain (repG g2 r1.1) r2.1 hd q
abbrev EO := Sl → Mem → R3 (Option Int)
def oNone : EO := fun _ μ => some (.ok none, μ)
def oSome (f : EE) : EO := fun sd μ => bE (f sd μ) fun d μ1 => match d with
  | .int i => some (.ok (some i), μ1)
  | _ => none
def relO : Rel (Option Int) (Option Int) := fun _ _ _ _ _ b c => c = b
theorem antiO : Anti relO := fun _ _ _ _ _ _ _ _ _ r => r
def tO (K : PySem.W.Frag) (mg : Mg) (H0 : Hp) (W : WX) (f : EO) : TO := fun σ H Q => ∃ av θ sd μ, RS K mg H0 av θ sd μ σ H ∧ Post K mg H0 W relO av θ sd σ H Q (f sd μ)
theorem wkO {eo : Option Expr} {t t' : TO} (h : PO X eo t) (w : ∀ σ H Q, t' σ H Q → t σ H Q) : PO X eo t' := ⟨fun pins s σ H Q I q => h.run pins s σ H Q I (w σ H Q q)⟩
theorem pd_onone : PO X none (tO X.K X.mg H0 W oNone) := wkO po_none fun σ H Q ⟨av, θ, sd, μ, R, P⟩ => P none θ H [] Gr.refl R rfl
theorem pd_osome (h : PE X e (tE X.K X.mg H0 W f)) : PO X (some e) (tO X.K X.mg H0 W (oSome f)) := by
  refine wkO (po_some h) fun σ H Q ⟨av, θ, sd, μ, R, P⟩ => ⟨av, θ, sd, μ, R, P.bind antiO fun x μ1 v θ1 H1 nv g1 R1 r1 P1 => ?_⟩
  cases x with
  | int i => exact ⟨i, r1.1, P1 (some i) θ1 H1 [] Gr.refl R1.plain rfl⟩
  | _ => exact P1.elim
def SlD (X : Cx) (g : Mem → D → Option Int → Option Int → Option D) : Prop := ∀ H0 : Hp, ∃ r : V → Option Int → Option Int → Hp → VK → Prop, SlR X r ∧
  ∀ (av θ : List Addr) (sd : Sl) (μ : Mem) (σ : L2.St) (H : Hp) (dx : D) (x : V) (lo hi : Option Int) (d : D) (Q : VK), RS X.K X.mg H0 av θ sd μ σ H → rep X.K X.mg H0 av θ H dx x → g μ dx lo hi = some d → Asks X H0 av θ sd μ σ H d Q → r x lo hi H Q
def eSl (g : Mem → D → Option Int → Option Int → Option D) (f : EE) (l h : EO) : EE := fun sd μ => bE (f sd μ) fun x μ1 => bE (l sd μ1) fun i μ2 => bE (h sd μ2) fun j μ3 => (g μ3 x i j).map fun d => (.ok d, μ3)
theorem pd_slice {gg : Mem → D → Option Int → Option Int → Option D} {lo hi : Option Expr} {p2 : Pos} {fl fh : EO} (hr : SlD X gg) (he : PE X e (tE X.K X.mg H0 W f)) (hl : PO X lo (tO X.K X.mg H0 W fl)) (hh : PO X hi (tO X.K X.mg H0 W fh)) :
    PE X (.Subscript e (.Slice lo hi none p2) pos) (tE X.K X.mg H0 W (eSl gg f fl fh)) := by
  obtain ⟨r, hr, k⟩ := hr H0
  refine wkE (pe_slice hr he hl hh) fun σ H Q ⟨av, θ, sd, μ, R, P⟩ => ⟨av, θ, sd, μ, R, P.bind antiD fun x μ1 v θ1 H1 nv g1 R1 r1 P1 => ?_⟩
  refine ⟨av, θ1, sd, μ1, R1.plain, P1.bind (rel1 := relO) antiD fun i μ2 io θ2 H2 nw g2 R2 r2 P2 => ?_⟩
  have r2 : io = i := r2
  subst r2
  refine ⟨av, θ2, sd, μ2, R2.plain, P2.bind (rel1 := relO) antiD fun j μ3 jo θ3 H3 nu g3 R3 r3 P3 => ?_⟩
  have r3 : jo = j := r3
  subst r3
  obtain ⟨d, hd, q⟩ := P3.ask
  exact k av θ3 sd μ3 σ H3 x v io jo d Q R3.plain (repG g3 (repG g2 r1.1)) hd q
/-! ### tests -/
theorem pq_val (h : PE X e (tE X.K X.mg H0 W f)) (he : ∀ whole, isTrue e X.env whole = (do let v ← whole; standAt e.pos; holding [v] (truthy v)) := by intro _; rfl) : PT X e (tT X.K X.mg H0 W (qB f)) := by
  refine wkT (pt_val h he) fun σ H Q ⟨av, θ, sd, μ, R, P⟩ => ⟨av, θ, sd, μ, R, P.bind antiB fun x μ1 v θ1 H1 nv g1 R1 r1 P1 => ?_⟩
  cases x with
  | bl k => exact ⟨k, r1.1, P1 k θ1 H1 [] Gr.refl R1.plain rfl⟩
  | _ => exact P1.elim
theorem pq_cmp {op : CmpOp} {gg : Mem → D → D → Option D} (ho : OpD X (compareOp op) gg) (ha : PE X a (tE X.K X.mg H0 W fa)) (hb : PE X b (tE X.K X.mg H0 W fb)) (hm : behindInMarks op b = false) : PT X (.Compare a [op] [b] pos) (tT X.K X.mg H0 W (qB (eBin gg fa fb))) := by
  obtain ⟨r, hr, k⟩ := ho H0
  refine wkT (pt_cmpR hr ha hb hm) fun σ H Q ⟨av, θ, sd, μ, R, P⟩ => ?_
  have P : Post X.K X.mg H0 W relB av θ sd σ H Q (bE (fa sd μ) fun x μ1 => bE (bE (fb sd μ1) fun y μ2 => (gg μ2 x y).map fun d => (.ok d, μ2)) fun x μ1 => match x with | .bl b => some (.ok b, μ1) | _ => none) := by
    unfold qB eBin at P
    cases h : fa sd μ with
    | none => rw [h] at P; exact P
    | some z =>
      obtain ⟨r, m⟩ := z
      rw [h] at P
      cases r <;> exact P
  refine ⟨av, θ, sd, μ, R, P.bind antiB fun x μ1 v θ1 H1 nv g1 R1 r1 P1 => ?_⟩
  have P1 : Post X.K X.mg H0 W relB av θ1 sd σ H1 Q (bE (fb sd μ1) fun y μ2 => bE ((gg μ2 x y).map fun d => (Except.ok d, μ2)) fun x μ1 => match x with | .bl b => some (.ok b, μ1) | _ => none) := by
    cases h : fb sd μ1 with
    | none => rw [h] at P1; exact P1
    | some z =>
      obtain ⟨r, m⟩ := z
      rw [h] at P1
      cases r <;> exact P1
  refine ⟨av, θ1, sd, μ1, R1.plain, P1.bind antiB fun y μ2 w θ2 H2 nw g2 R2 r2 P2 => ?_⟩
  cases h : gg μ2 x y with
  | none => rw [h] at P2; exact P2.elim
  | some d =>
    rw [h] at P2
    refine k av θ2 sd μ2 σ H2 x y v w d _ R2.plain (repG g2 r1.1) r2.1 h fun u H' nu e R3 r3 => ?_
    cases d with
    | bl q => exact ⟨q, r3.1, P2 q θ2 H' [] (Gr.of_ex e) R3.plain rfl⟩
    | _ => exact P2.elim
theorem pq_not (ha : PT X a (tT X.K X.mg H0 W ta)) : PT X (.UnaryOp .Not a pos) (tT X.K X.mg H0 W (qNot ta)) :=
  wkT (pt_not ha) fun σ H Q ⟨av, θ, sd, μ, R, P⟩ => ⟨av, θ, sd, μ, R, P.bind antiB fun x μ1 v θ1 H1 nv g1 R1 r1 P1 => by
    have r1 : v = x := r1
    subst r1
    exact P1 (!v) θ1 H1 [] Gr.refl R1.plain rfl⟩
theorem pq_and1 (ha : PT X a (tT X.K X.mg H0 W ta)) : PW X (.BoolOp .And [a] pos) (tT X.K X.mg H0 W ta) := pw_and1 ha
theorem pq_or1 (ha : PT X a (tT X.K X.mg H0 W ta)) : PW X (.BoolOp .Or [a] pos) (tT X.K X.mg H0 W ta) := pw_or1 ha
theorem pq_and (ha : PT X a (tT X.K X.mg H0 W ta)) (hb : PW X (.BoolOp .And (b :: rest) pos) (tT X.K X.mg H0 W tb)) : PW X (.BoolOp .And (a :: b :: rest) pos) (tT X.K X.mg H0 W (qAnd ta tb)) :=
  wkW (pw_and ha hb) fun σ H Q ⟨av, θ, sd, μ, R, P⟩ => ⟨av, θ, sd, μ, R, P.bind antiB fun x μ1 v θ1 H1 nv g1 R1 r1 P1 => by
    have r1 : v = x := r1
    subst r1
    cases v with
    | true => exact ⟨av, θ1, sd, μ1, R1.plain, P1⟩
    | false => exact P1 false θ1 H1 [] Gr.refl R1.plain rfl⟩
theorem pq_or (ha : PT X a (tT X.K X.mg H0 W ta)) (hb : PW X (.BoolOp .Or (b :: rest) pos) (tT X.K X.mg H0 W tb)) : PW X (.BoolOp .Or (a :: b :: rest) pos) (tT X.K X.mg H0 W (qOr ta tb)) :=
  wkW (pw_or ha hb) fun σ H Q ⟨av, θ, sd, μ, R, P⟩ => ⟨av, θ, sd, μ, R, P.bind antiB fun x μ1 v θ1 H1 nv g1 R1 r1 P1 => by
    have r1 : v = x := r1
    subst r1
    cases v with
    | true => exact P1 true θ1 H1 [] Gr.refl R1.plain rfl
    | false => exact ⟨av, θ1, sd, μ1, R1.plain, P1⟩⟩
/-! ### and, or, not, if .. else as values -/
theorem pd_if (hc : PT X c (tT X.K X.mg H0 W ta)) (ha : PE X a (tE X.K X.mg H0 W fa)) (hb : PE X b (tE X.K X.mg H0 W fb)) : PE X (.IfExp c a b pos) (tE X.K X.mg H0 W (eIf ta fa fb)) :=
  wkE (pe_ifExp hc ha hb) fun σ H Q ⟨av, θ, sd, μ, R, P⟩ => ⟨av, θ, sd, μ, R, P.bind antiD fun x μ1 v θ1 H1 nv g1 R1 r1 P1 => by
    have r1 : v = x := r1
    subst r1
    cases v with
    | true => exact ⟨av, θ1, sd, μ1, R1.plain, P1⟩
    | false => exact ⟨av, θ1, sd, μ1, R1.plain, P1⟩⟩
theorem pd_one {op : BoolOp} (ha : PE X a (tE X.K X.mg H0 W fa)) : PE X (.BoolOp op [a] pos) (tE X.K X.mg H0 W fa) := pe_one ha
theorem pd_and (ha : PE X a (tE X.K X.mg H0 W fa)) (hb : PE X (.BoolOp .And (b :: rest) pos) (tE X.K X.mg H0 W fb)) : PE X (.BoolOp .And (a :: b :: rest) pos) (tE X.K X.mg H0 W (eAnd fa fb)) :=
  wkE (pe_and ha hb) fun σ H Q ⟨av, θ, sd, μ, R, P⟩ => ⟨av, θ, sd, μ, R, P.bind antiD fun x μ1 v θ1 H1 nv g1 R1 r1 P1 => by
    cases x with
    | bl k =>
      refine ⟨k, r1.1, ?_⟩
      cases k with
      | true => exact ⟨av, θ1, sd, μ1, R1.plain, P1⟩
      | false => exact P1 (.bl false) θ1 H1 [] Gr.refl R1.plain ⟨rfl, fun _ e => by cases e⟩
    | _ => exact P1.elim⟩
theorem pd_or (ha : PE X a (tE X.K X.mg H0 W fa)) (hb : PE X (.BoolOp .Or (b :: rest) pos) (tE X.K X.mg H0 W fb)) : PE X (.BoolOp .Or (a :: b :: rest) pos) (tE X.K X.mg H0 W (eOr fa fb)) :=
  wkE (pe_or ha hb) fun σ H Q ⟨av, θ, sd, μ, R, P⟩ => ⟨av, θ, sd, μ, R, P.bind antiD fun x μ1 v θ1 H1 nv g1 R1 r1 P1 => by
    cases x with
    | bl k =>
      refine ⟨k, r1.1, ?_⟩
      cases k with
      | true => exact P1 (.bl true) θ1 H1 [] Gr.refl R1.plain ⟨rfl, fun _ e => by cases e⟩
      | false => exact ⟨av, θ1, sd, μ1, R1.plain, P1⟩
    | _ => exact P1.elim⟩
theorem pd_not (ha : PE X a (tE X.K X.mg H0 W fa)) : PE X (.UnaryOp .Not a pos) (tE X.K X.mg H0 W (eNot fa)) :=
  wkE (pe_not ha) fun σ H Q ⟨av, θ, sd, μ, R, P⟩ => ⟨av, θ, sd, μ, R, P.bind antiD fun x μ1 v θ1 H1 nv g1 R1 r1 P1 => by
    cases x with
    | bl k => exact ⟨k, r1.1, P1 (.bl (!k)) θ1 H1 [] Gr.refl R1.plain ⟨rfl, fun _ e => by cases e⟩⟩
    | _ => exact P1.elim⟩
end
end DL
set_option Elab.async false
set_option linter.all false
set_option maxRecDepth 100000
/-! DL, part d: statements, targets, loops, comprehensions. -/
namespace DL
open PySem PySem.Spec PyProof.Rows L2

/-! ### statements as plain functions -/
def sSkip : SS := fun sd μ => some (.nx, sd, μ)
def sSeq (f g : SS) : SS := fun sd μ => match f sd μ with
  | some (.nx, sd1, μ1) => g sd1 μ1
  | r => r
/-- what a value's evaluation does at a statement's end -/
def bS (m : R3 D) (sd : Sl) (k : D → Mem → SR) : SR := match m with
  | none => none
  | some (.error e, μ) => some (.exc e, sd, μ)
  | some (.ok x, μ) => k x μ
def sDrop (f : EE) : SS := fun sd μ => bS (f sd μ) sd fun _ μ1 => some (.nx, sd, μ1)
def sIf (t : ET) (a b : SS) : SS := fun sd μ => match t sd μ with
  | none => none
  | some (.error e, μ1) => some (.exc e, sd, μ1)
  | some (.ok true, μ1) => a sd μ1
  | some (.ok false, μ1) => b sd μ1
def sBreak : SS := fun sd μ => some (.brk, sd, μ)
def sCont : SS := fun sd μ => some (.ct, sd, μ)
/-- a target -/
abbrev TgD := Sl → Mem → D → Option (Sl × Mem)
def gD (i : Nat) : TgD := fun sd μ d => match d with
  | .new _ => none
  | d => some (sd.set i (some d), μ)
def sAsg (f : EE) (t : TgD) : SS := fun sd μ => bS (f sd μ) sd fun d μ1 => (t sd μ1 d).map fun z => (.nx, z.1, z.2)

/-! ### what is handed back -/
/-- a value on its way out of the def -/
def outD (μ : Mem) (d : D) : Option D := match d with
  | .new ds => if plainL ds then some (.new ds) else none
  | .ref n => match μ[n]? with
    | some (.lst ds) => if plainL ds then some (.new ds) else none
    | some (.ins C fs) => if plainF fs then some (.obj C fs) else none
    | none => none
  | d => if plain d then some d else none
def sRet (f : EE) : SS := fun sd μ => bS (f sd μ) sd fun d μ1 => (outD μ1 d).map fun d' => (.ret d', sd, μ1)
def sRetN : SS := fun sd μ => some (.ret .non, sd, μ)

section
variable {K : PySem.W.Frag} {mg : Mg} {H0 H H' : Hp} {av θ : List Addr}
theorem TupAt.out {a : Addr} {xs : List V} (h : TupAt K av θ H a xs) : TupAt K av [] H a xs := by
  rcases h with ⟨n, m, h⟩ | h
  · exact .inl ⟨by simp, m, h⟩
  · exact .inr h
mutual
theorem rep.out : ∀ (d : D) (v : V), plain d = true → rep K mg H0 av θ H d v → rep K mg H0 av [] H d v
  | .non, _, _, h => h
  | .bl _, _, _, h => h
  | .int _, _, _, h => h
  | .str _, _, _, h => h
  | .glob _, _, _, h => h
  | .ty _, _, _, h => h
  | .tup ds, _, p, ⟨a, xs, e, t, r⟩ => ⟨a, xs, e, t.out, repL.out ds xs (by simpa [plain] using p) r⟩
  | .fr ds, _, p, ⟨a, xs, e, n, m, f, t, r⟩ => ⟨a, xs, e, by simp, m, f, t, repL.out ds xs (by simpa [plain] using p) r⟩
  | .obj _ fs, _, p, ⟨a, c, dx, vs, e, n, m, hc, t, r⟩ => ⟨a, c, dx, vs, e, by simp, m, hc, t, repF.out fs vs (by simpa [plain] using p) r⟩
  | .new _, _, p, _ => by simp [plain] at p
  | .lst _, _, p, _ => by simp [plain] at p
  | .lck _, _, p, _ => by simp [plain] at p
  | .ref _, _, p, _ => by simp [plain] at p
  | .bor _ _, _, p, _ => by simp [plain] at p
  | .exh _ _ _ _, _, p, _ => by simp [plain] at p
theorem repL.out : ∀ (ds : List D) (xs : List V), plainL ds = true → repL K mg H0 av θ H ds xs → repL K mg H0 av [] H ds xs
  | [], _, _, h => h
  | d :: ds, _, p, ⟨x, r, e, h, t⟩ => by
    simp only [plainL, Bool.and_eq_true] at p
    exact ⟨x, r, e, rep.out d x p.1 h, repL.out ds r p.2 t⟩
theorem repF.out : ∀ (ds : List (Str × D)) (xs : List (Str × V)), plainF ds = true → repF K mg H0 av θ H ds xs → repF K mg H0 av [] H ds xs
  | [], _, _, h => h
  | (_, d) :: ds, _, p, ⟨x, r, e, h, t⟩ => by
    simp only [plainF, Bool.and_eq_true] at p
    exact ⟨x, r, e, rep.out d x p.1 h, repF.out ds r p.2 t⟩
end
theorem repL.outp {p : Addr} {ds : List D} {xs : List V} (q : plainL ds = true) (r : repL K mg H0 (p :: av) θ H ds xs) : repL K mg H0 (p :: av) [] H ds xs := repL.out _ _ q r
theorem out_ok {sd : Sl} {μ : Mem} {σ : L2.St} {H1 : Hp} {nv : List Addr} {d d' : D} {v : V} (R : RS K mg H0 av θ sd μ σ H) (r : relD K mg H0 av θ H1 H nv d v) (h : outD μ d = some d') : repR K mg H0 av H d' v := by
  unfold outD at h
  split at h
  · rename_i ds
    split at h
    · rename_i p
      cases h
      obtain ⟨⟨a, xs, e, n, m, f, t, r⟩, rn⟩ := r
      obtain ⟨p1, ys, e1, _, _, t1, r1⟩ := rn ds rfl
      exact ⟨p, ⟨a, xs, e, by simp, m, f, t, repL.out _ _ p r⟩, fun _ e => by cases e; exact ⟨p1, ys, e1, t1, repL.outp p r1⟩⟩
    · cases h
  · rename_i n
    obtain ⟨⟨a, rfl, hn⟩, _⟩ := r
    have ha : a ∈ θ := List.mem_of_getElem? hn
    split at h
    · rename_i ds hm
      split at h
      · rename_i p
        cases h
        obtain ⟨xs, t, r⟩ := R.mem n _ a hm hn
        have k : Goes av (a :: av) θ θ H H := fun b o n1 m1 e1 => ⟨n1, fun q => (List.mem_cons.mp q).elim (fun z => n1 (by rw [z]; exact ha)) m1, e1⟩
        exact ⟨p, ⟨a, xs, rfl, by simp, fun q => (R.avs a q).1 ha, R.fr a ha, t, repL.out _ _ p r⟩, fun _ e => by cases e; exact ⟨a, xs, rfl, t, repL.outp p (repL.tr (fun _ _ h => h) k _ _ r)⟩⟩
      · cases h
    · rename_i C fs hm
      split at h
      · rename_i p
        cases h
        obtain ⟨c, dx, vs, hc, t, r⟩ := R.mem n _ a hm hn
        exact ⟨p, ⟨a, c, dx, vs, rfl, by simp, fun q => (R.avs a q).1 ha, hc, t, repF.out _ _ p r⟩, fun _ e => by cases e⟩
      · cases h
    · cases h
  · rename_i hn1 hn2
    split at h
    · rename_i p
      cases h
      refine ⟨?_, rep.out _ _ p r.1, fun ds e => absurd e (hn1 ds)⟩
      cases d <;> first | exact p | exact absurd rfl (hn1 _)
    · cases h
end

section
variable {H0 : Hp} {W : WX} {X : Cx} {a b c e : Expr} {es : List Expr} {st : Stmt} {sts body : List Stmt} {pos : Pos} {f : EE} {fs gs : SS} {t : ET} {av θ : List Addr} {sd : Sl} {μ : Mem} {σ : L2.St} {H : Hp}
theorem ps_nil : PSs X [] (tS X.K X.mg H0 W sSkip) := wkSs pss_nil fun E σ H ⟨av, θ, sd, μ, R, P⟩ => P σ θ H Gr.refl R
theorem ps_cons (h1 : PS X st (tS X.K X.mg H0 W fs)) (h2 : PSs X sts (tS X.K X.mg H0 W gs)) : PSs X (st :: sts) (tS X.K X.mg H0 W (sSeq fs gs)) := by
  refine wkSs (pss_cons h1 h2) fun E σ H ⟨av, θ, sd, μ, R, P⟩ => ⟨av, θ, sd, μ, R, ?_⟩
  unfold sSeq at P
  match h : fs sd μ, P with
  | none, P => exact P
  | some (.nx, sd1, μ1), P => exact fun σ' θ' H' g R' => ⟨av, θ', sd1, μ1, R', P.rebase g⟩
  | some (.ret d, sd1, μ1), P => exact P
  | some (.brk, sd1, μ1), P => exact P
  | some (.ct, sd1, μ1), P => exact P
  | some (.exc e, sd1, μ1), P => exact P
theorem ps_one (h1 : PS X st (tS X.K X.mg H0 W fs)) : PSs X [st] (tS X.K X.mg H0 W fs) := pss_one h1
/-- a value, then what a statement does with it -/
theorem PostS.val {E : Ends} {m : R3 D} {k : D → Mem → SR} {Q : VK} (R : RS X.K X.mg H0 av θ sd μ σ H) (P : PostS X.K X.mg H0 W av θ H E (bS m sd k))
    (h : ∀ (x : D) (μ1 : Mem) (y : V) (θ1 : List Addr) (H1 : Hp) (nv : List Addr), Gr θ θ1 H H1 → RS X.K X.mg H0 (nv ++ av) θ1 sd μ1 σ H1 → relD X.K X.mg H0 av θ1 H H1 nv x y → PostS X.K X.mg H0 W av θ1 H1 E (k x μ1) → Q y H1) :
    Post X.K X.mg H0 W (relD X.K X.mg H0) av θ sd σ H Q m := by
  match m, P with
  | some (.ok x, μ'), P => exact fun y θ' H' nv g R r => h x μ' y θ' H' nv g R r (PostS.rebase (show PostS X.K X.mg H0 W av θ H E (k x μ') from P) g)
  | some (.error e, μ'), P => exact fun cls dd θ' H' g R r => P cls dd σ θ' H' g R r
theorem ps_drop (he : PE X e (tE X.K X.mg H0 W f)) (hs : swapsWith e none pos.line X.env = pure false := by rfl) : PS X (.Expr e pos) (tS X.K X.mg H0 W (sDrop f)) :=
  wkS (L2.ps_expr he hs) fun E σ H ⟨av, θ, sd, μ, R, P⟩ => ⟨av, θ, sd, μ, R, P.val R fun x μ1 y θ1 H1 nv g R1 r P1 => P1 σ θ1 H1 Gr.refl R1.plain⟩
theorem ps_iff {c : Expr} {a b : List Stmt} (hc : PT X c (tT X.K X.mg H0 W t)) (ha : PSs X a (tS X.K X.mg H0 W fs)) (hb : PSs X b (tS X.K X.mg H0 W gs)) : PS X (.If c a b pos) (tS X.K X.mg H0 W (sIf t fs gs)) := by
  refine wkS (L2.ps_if hc ha hb) fun E σ H ⟨av, θ, sd, μ, R, P⟩ => ⟨av, θ, sd, μ, R, ?_⟩
  unfold sIf at P
  match h : t sd μ, P with
  | none, P => exact P
  | some (.error e, μ1), P => exact fun cls dd θ' H' g R r => P cls dd σ θ' H' g R r
  | some (.ok true, μ1), P =>
    intro y θ' H' nv g R' r
    have r : y = true := r
    subst r
    exact ⟨av, θ', sd, μ1, R'.plain, P.rebase g⟩
  | some (.ok false, μ1), P =>
    intro y θ' H' nv g R' r
    have r : y = false := r
    subst r
    exact ⟨av, θ', sd, μ1, R'.plain, P.rebase g⟩
theorem ps_return (he : PE X e (tE X.K X.mg H0 W f)) : PS X (.Return (some e) pos) (tS X.K X.mg H0 W (sRet f)) := by
  refine wkS (L2.ps_ret he) fun E σ H ⟨av, θ, sd, μ, R, P⟩ => ⟨av, θ, sd, μ, R, P.val R fun x μ1 y θ1 H1 nv g R1 r P1 => ?_⟩
  cases h : outD μ1 x with
  | none => rw [h] at P1; exact P1.elim
  | some d => rw [h] at P1; exact P1 y H1 R1.ex (out_ok R1.plain r h)
theorem ps_returnN : PS X (.Return none pos) (tS X.K X.mg H0 W sRetN) := wkS L2.ps_retN fun E σ H ⟨av, θ, sd, μ, R, P⟩ => P .non H R.ex ⟨rfl, rfl, fun _ e => by cases e⟩
theorem ps_brk : PS X (.Break pos) (tS X.K X.mg H0 W sBreak) := wkS L2.ps_break fun E σ H ⟨av, θ, sd, μ, R, P⟩ => P σ θ H Gr.refl R
theorem ps_ct : PS X (.Continue pos) (tS X.K X.mg H0 W sCont) := wkS L2.ps_continue fun E σ H ⟨av, θ, sd, μ, R, P⟩ => P σ θ H Gr.refl R
theorem ps_skip : PS X (.Pass pos) (tS X.K X.mg H0 W sSkip) := wkS L2.ps_pass fun E σ H ⟨av, θ, sd, μ, R, P⟩ => P σ θ H Gr.refl R

/-! ### targets: is, the slots that may turn -/
def PostG (K : PySem.W.Frag) (mg : Mg) (H0 : Hp) (is : List Nat) (av θ : List Addr) (σ : L2.St) (H : Hp) (Q : L2.St → Hp → Prop) (o : Option (Sl × Mem)) : Prop := match o with
  | none => False
  | some (sd', μ') => ∀ σ' θ' H', Gr θ θ' H H' → RS K mg H0 av θ' sd' μ' σ' H' → σ'.length = σ.length → (∀ i, i ∉ is → σ'[i]? = σ[i]?) → Q σ' H'
def tG (K : PySem.W.Frag) (mg : Mg) (H0 : Hp) (is : List Nat) (t : TgD) : TG := fun v σ H Q => ∃ av θ sd μ d, RS K mg H0 av θ sd μ σ H ∧ rep K mg H0 av θ H d v ∧ PostG K mg H0 is av θ σ H Q (t sd μ d)
theorem wkG {tg : Expr} {g g' : TG} (h : PG X tg g) (w : ∀ v σ H Q, g' v σ H Q → g v σ H Q) : PG X tg g' := ⟨fun pins s σ H v u Q I r q => h.run pins s σ H v u Q I r (w v σ H Q q)⟩
theorem pgd_name (i : Nat) {x : Str} (hN : X.N.Nodup) (hi : X.N[i]? = some x := by rfl) (hx : Loc X.env.scope x := by first | exact Or.inl rfl | exact Or.inr rfl) (hf : X.fn x = true ∨ X.env.scope.names.lookup x = some .local := by first | exact .inl rfl | exact .inr rfl) :
    PG X (.Name x pos) (tG X.K X.mg H0 [i] (gD i)) := by
  refine wkG (pg_name hN hi hx hf) fun v σ H Q ⟨av, θ, sd, μ, d, R, r, P⟩ => ?_
  have P : PostG X.K X.mg H0 [i] av θ σ H Q (some (sd.set i (some d), μ)) := by
    cases d <;> first | exact P | exact P.elim
  exact P _ θ H Gr.refl (R.set i r) (List.length_set ..) fun j hj => List.getElem?_set_ne (fun e => hj (by rw [e]; exact List.mem_singleton.mpr rfl))
theorem ps_assign {tg : Expr} {is : List Nat} {t : TgD} (he : PE X e (tE X.K X.mg H0 W f)) (hg : PG X tg (tG X.K X.mg H0 is t)) (hs : swapsWithSole [tg] e pos.line X.env = pure false := by rfl) (hw : swappedStores [tg] e X.env = pure none := by rfl)
    (h1 : (assignEach [tg] X.env).map (·.2) = [assign tg X.env] := by rfl) : PS X (.Assign [tg] e pos) (tS X.K X.mg H0 W (sAsg f t)) := by
  refine wkS (ps_asg he hg hs hw h1) fun E σ H ⟨av, θ, sd, μ, R, P⟩ => ⟨av, θ, sd, μ, R, P.val R fun x μ1 y θ1 H1 nv g R1 r P1 => ?_⟩
  refine ⟨av, θ1, sd, μ1, x, R1.plain, r.1, ?_⟩
  cases h : t sd μ1 x with
  | none => rw [h] at P1; exact P1.elim
  | some z => rw [h] at P1; exact fun σ' θ' H' g R' _ _ => P1 σ' θ' H' g R'
/-! tuple targets -/
/-- the parts of what is unpacked -/
def partsD (μ : Mem) (d : D) : Option (List D) := match d with
  | .tup ds => some ds
  | _ => none
abbrev TgsD := Sl → Mem → List D → Option (Sl × Mem)
def gNilD : TgsD := fun sd μ ds => match ds with
  | [] => some (sd, μ)
  | _ => none
def gConsD (t : TgD) (u : TgsD) : TgsD := fun sd μ ds => match ds with
  | d :: r => (t sd μ d).bind fun z => u z.1 z.2 r
  | [] => none
def gTupD (u : TgsD) : TgD := fun sd μ d => match d with
  | .tup ds => u sd μ ds
  | _ => none
def tGs (K : PySem.W.Frag) (mg : Mg) (H0 : Hp) (is : List Nat) (t : TgsD) : TGs := fun vs σ H Q => ∃ av θ sd μ ds, RS K mg H0 av θ sd μ σ H ∧ repL K mg H0 av θ H ds vs ∧ PostG K mg H0 is av θ σ H Q (t sd μ ds)
theorem wkGs {tgs : List Expr} {g g' : TGs} (h : PGs X tgs g) (w : ∀ v σ H Q, g' v σ H Q → g v σ H Q) : PGs X tgs g' := ⟨fun pins s σ H v u Q I r q => h.run pins s σ H v u Q I r (w v σ H Q q)⟩
theorem pgd_nil : PGs X [] (tGs X.K X.mg H0 [] gNilD) := by
  refine wkGs pgs_nil fun v σ H Q ⟨av, θ, sd, μ, ds, R, r, P⟩ => ?_
  cases ds with
  | nil => exact ⟨r, P σ θ H Gr.refl R rfl fun _ _ => rfl⟩
  | cons d ds => exact P.elim
theorem PostG.more {is js : List Nat} {Q : L2.St → Hp → Prop} {o : Option (Sl × Mem)} (h : ∀ i ∈ is, i ∈ js) (P : PostG X.K X.mg H0 js av θ σ H Q o) : PostG X.K X.mg H0 is av θ σ H Q o := by
  match o, P with
  | some (sd', μ'), P => exact fun σ' θ' H' g R hl hi => P σ' θ' H' g R hl fun i n => hi i fun q => n (h i q)
theorem pgd_cons {tgs : List Expr} {tg : Expr} {is js : List Nat} {t : TgD} {u : TgsD} (h1 : PG X tg (tG X.K X.mg H0 is t)) (h2 : PGs X tgs (tGs X.K X.mg H0 js u))
    (hs : (assignEach (tg :: tgs) X.env).map (·.2) = assign tg X.env :: (assignEach tgs X.env).map (·.2) := by rfl) : PGs X (tg :: tgs) (tGs X.K X.mg H0 (is ++ js) (gConsD t u)) := by
  refine wkGs (pgs_cons h1 h2 hs) fun vs σ H Q ⟨av, θ, sd, μ, ds, R, r, P⟩ => ?_
  cases ds with
  | nil => exact P.elim
  | cons d ds =>
    obtain ⟨x, rr, e, rx, rt⟩ := r
    refine ⟨x, rr, e, av, θ, sd, μ, d, R, rx, ?_⟩
    have P : PostG X.K X.mg H0 (is ++ js) av θ σ H Q ((t sd μ d).bind fun z => u z.1 z.2 ds) := P
    cases h : t sd μ d with
    | none => rw [h] at P; exact P.elim
    | some z =>
      rw [h] at P
      intro σ' θ' H' g R' hl hi
      refine ⟨av, θ', z.1, z.2, ds, R', repL.gr g _ _ rt, ?_⟩
      have P : PostG X.K X.mg H0 (is ++ js) av θ σ H Q (u z.1 z.2 ds) := P
      match h2 : u z.1 z.2 ds, P with
      | some (sd2, μ2), P =>
        exact fun σ2 θ2 H2 g2 R2 hl2 hi2 => P σ2 θ2 H2 (g.trans g2) R2 (hl2.trans hl) fun i n => (hi2 i fun q => n (List.mem_append_right _ q)).trans (hi i fun q => n (List.mem_append_left _ q))
theorem pgd_tup {tgs : List Expr} {k : Nat} {is : List Nat} {u : TgsD} (n : Nat) (hc : X.calm = true) (h : PGs X tgs (tGs X.K X.mg H0 is u)) (hu : ∀ sd μ ds, ds.length ≠ n → u sd μ ds = none) (hn : (assignEach tgs X.env).length = n := by rfl) (hst : (assignEach tgs X.env).findIdx? (·.1) = none := by rfl) :
    PG X (.Tuple tgs k pos) (tG X.K X.mg H0 is (gTupD u)) := by
  refine wkG (pg_tup hc h hn hst) fun v σ H Q ⟨av, θ, sd, μ, d, R, r, P⟩ => ?_
  cases d with
  | tup ds =>
    obtain ⟨a, xs, e, ht, rl⟩ := r
    have P : PostG X.K X.mg H0 is av θ σ H Q (u sd μ ds) := P
    have hlen : ds.length = n := by
      by_cases q : ds.length = n
      · exact q
      · rw [hu sd μ ds q] at P; exact P.elim
    exact ⟨a, xs, e, ht.sq, by rw [repL.length rl]; exact hlen, av, θ, sd, μ, ds, R, rl, P⟩
  | _ => exact P.elim
theorem gNilD_len : ∀ (sd : Sl) (μ : Mem) (ds : List D), ds.length ≠ 0 → gNilD sd μ ds = none := fun sd μ ds h => by
  cases ds with
  | nil => exact absurd rfl h
  | cons d ds => rfl
theorem gConsD_len {t : TgD} {u : TgsD} {n : Nat} (h : ∀ sd μ ds, ds.length ≠ n → u sd μ ds = none) : ∀ (sd : Sl) (μ : Mem) (ds : List D), ds.length ≠ n + 1 → gConsD t u sd μ ds = none := fun sd μ ds hn => by
  cases ds with
  | nil => rfl
  | cons d ds =>
    unfold gConsD
    simp only
    cases t sd μ d with
    | none => rfl
    | some z => exact h _ _ _ fun q => hn (by rw [List.length_cons, q])

/-! ### changing objects -/
theorem RS.setO {av θ : List Addr} {sd : Sl} {μ : Mem} {σ : L2.St} {H : Hp} {K : PySem.W.Frag} {mg : Mg} {n : Nat} {a : Addr} {o : HO} {mo : MO} (R : RS K mg H0 av θ sd μ σ H) (hn : θ[n]? = some a) (h' : repO K mg H0 av θ (upd H a o) mo a) :
    Gr θ θ H (upd H a o) ∧ RS K mg H0 av θ sd (μ.set n mo) σ (upd H a o) := by
  have ha : a ∈ θ := List.mem_of_getElem? hn
  have g : Gr θ θ H (upd H a o) := ⟨List.prefix_refl _, fun b h m => absurd h m, fun b u m e => by rw [upd_ne (fun z => m (by rw [z]; exact ha))]; exact e⟩
  refine ⟨g, R.ex.mut (R.fr a ha), R.fr, R.nd, by rw [List.length_set]; exact R.len, fun k m b h1 h2 => ?_, fun b q => ?_, (R.sls g)⟩
  · by_cases q : k = n
    · subst q
      rw [hn] at h2
      obtain rfl : a = b := Option.some.inj h2
      have hk : k < μ.length := by rw [← R.len]; exact (List.getElem?_eq_some_iff.mp hn).1
      rw [List.getElem?_set_self hk] at h1
      obtain rfl : mo = m := Option.some.inj h1
      exact h'
    · rw [List.getElem?_set_ne (Ne.symm q)] at h1
      refine (R.mem k m b h1 h2).gr g fun u e => ?_
      have ne : b ≠ a := fun z => q (by
        subst z
        obtain ⟨i1, e1⟩ := List.getElem?_eq_some_iff.mp hn
        obtain ⟨i2, e2⟩ := List.getElem?_eq_some_iff.mp h2
        exact (List.getElem_inj R.nd).mp (e2.trans e1.symm))
      rw [upd_ne ne]; exact e
  · obtain ⟨m, u, e, mu⟩ := R.avs b q
    exact ⟨m, u, by rw [upd_ne (fun z => m (by rw [z]; exact ha))]; exact e, mu⟩
/-- a method that changes its object: the value, what is behind -/
def AsksM (X : Cx) (H0 : Hp) (av θ : List Addr) (sd : Sl) (σ : L2.St) (H : Hp) (d : D) (μ' : Mem) (Q : VK) : Prop :=
  ∀ v H' nv, Gr θ θ H H' → RS X.K X.mg H0 (nv ++ av) θ sd μ' σ H' → relD X.K X.mg H0 av θ H H' nv d v → Q v H'
def MuD (X : Cx) (id : String) (g : Mem → D → List D → Option (D × Mem)) : Prop := ∀ H0 : Hp, ∃ r : V → List V → Hp → VK → Prop, MtR X id r ∧
  ∀ (av θ : List Addr) (sd : Sl) (μ : Mem) (σ : L2.St) (H : Hp) (dx : D) (x : V) (ds : List D) (xs : List V) (d : D) (μ' : Mem) (Q : VK), RS X.K X.mg H0 av θ sd μ σ H → rep X.K X.mg H0 av θ H dx x → repL X.K X.mg H0 av θ H ds xs → g μ dx ds = some (d, μ') →
    AsksM X H0 av θ sd σ H d μ' Q → r x xs H Q
/-- xs is a list: what tyV asks -/
def isLst (μ : Mem) : D → Option (List D)
  | .lst ds => some ds
  | .fr ds => some ds
  | .new ds => some ds
  | .ref n => match μ[n]? with
    | some (.lst ds) => some ds
    | _ => none
  | _ => none
/-- a list's method that changes it -/
def eMu (g : Mem → D → List D → Option (D × Mem)) (f : EE) (a : EA) : EE := fun sd μ => bE (f sd μ) fun x μ1 => (isLst μ1 x).bind fun _ => bE (a sd μ1) fun ds μ2 => (g μ2 x ds).map fun z => (.ok z.1, z.2)
theorem lst_at {d : D} {v : V} {ds : List D} (R : RS X.K X.mg H0 av θ sd μ σ H) (r : rep X.K X.mg H0 av θ H d v) (h : isLst μ d = some ds) : ∃ a xs, v = .ref a ∧ H a = some (.lst xs) ∧ repL X.K X.mg H0 av θ H ds xs := by
  cases d with
  | lst es => cases h; obtain ⟨a, xs, e, t, r⟩ := r; exact ⟨a, xs, e, R.ex _ _ t, r⟩
  | fr es => cases h; obtain ⟨a, xs, e, _, _, _, t, r⟩ := r; exact ⟨a, xs, e, t, r⟩
  | new es => cases h; obtain ⟨a, xs, e, _, _, _, t, r⟩ := r; exact ⟨a, xs, e, t, r⟩
  | ref n =>
    obtain ⟨a, e, hn⟩ := r
    have h : (match μ[n]? with
      | some (.lst ds) => some ds
      | _ => none) = some ds := h
    cases hm : μ[n]? with
    | none => rw [hm] at h; cases h
    | some mo =>
      rw [hm] at h
      cases mo with
      | lst es => cases h; obtain ⟨xs, t, r⟩ := R.mem n _ a hm hn; exact ⟨a, xs, e, t, r⟩
      | ins C fs => cases h
  | _ => cases h
theorem lst_ty {d : D} {v : V} {ds : List D} (R : RS X.K X.mg H0 av θ sd μ σ H) (r : rep X.K X.mg H0 av θ H d v) (h : isLst μ d = some ds) : tyV X.K "list" v H := by
  obtain ⟨a, xs, rfl, t, _⟩ := lst_at R r h
  exact .inl ⟨rfl, xs, .inl (.inl t)⟩
theorem askM {o : Option (D × Mem)} {Q : VK} (P : Post X.K X.mg H0 W (relD X.K X.mg H0) av θ sd σ H Q (o.map fun z => (Except.ok z.1, z.2))) : ∃ d μ', o = some (d, μ') ∧ AsksM X H0 av θ sd σ H d μ' Q := by
  cases o with
  | none => exact P.elim
  | some z => exact ⟨z.1, z.2, rfl, fun v H' nv g R r => P v θ H' nv g R r⟩
/-- o.m(e, ..), o.m() of a list that changes -/
theorem pd_mu {o : Expr} {name : Str} {id : String} {apos cpos : Pos} {g : Mem → D → List D → Option (D × Mem)} {ga : EA} (slot : Slot "list" name id) (hty : typeOf (.builtin id) = pure (.type "method_descriptor")) (hm : MuD X id g)
    (ho : PE X o (tE X.K X.mg H0 W f)) (ha : PA X (e :: es) (tA X.K X.mg H0 W ga))
    (hbase : attributeBase o name X.env (eval o X.env) = eval o X.env := by rfl)
    (hfew : ((backTo cpos (starEach (e :: es) X.env)).all (fun x => !x.1) && (backToKw cpos (keywordEach [] X.env)).all (fun x => x.1.isSome)
      && decide ((e :: es).length + ([] : List Keyword).length + (if ([] : List Keyword).isEmpty then 0 else 1) < 30)) = true := by rfl)
    (hline : (apos.endLine == cpos.line) = true := by rfl) (hs : starEach (e :: es) X.env = (false, eval e X.env) :: starEach es X.env := by rfl) (hplain : (backTo cpos (starEach es X.env)).any (·.1) = false := by rfl) :
    PE X (.Call (.Attribute o name apos) (e :: es) [] cpos) (tE X.K X.mg H0 W (eMu g f ga)) := by
  obtain ⟨r, hr, k⟩ := hm H0
  refine wkE (pe_bm PySem.F.plainAttrs_list slot hty hr ho ha hbase hfew hline hs hplain) fun σ H Q ⟨av, θ, sd, μ, R, P⟩ => ⟨av, θ, sd, μ, R, P.bind antiD fun x μ1 v θ1 H1 nv g1 R1 r1 P1 => ?_⟩
  cases hx : isLst μ1 x with
  | none => rw [hx] at P1; exact P1.elim
  | some es =>
    rw [hx] at P1
    refine ⟨lst_ty R1.plain r1.1 hx, av, θ1, sd, μ1, R1.plain, ?_⟩
    have P1 : Post X.K X.mg H0 W (relD X.K X.mg H0) av θ1 sd σ H1 Q (bE (ga sd μ1) fun ds μ2 => (g μ2 x ds).map fun z => (.ok z.1, z.2)) := P1
    refine P1.bind antiD fun ds μ2 vs θ2 H2 nw g2 R2 r2 P2 => ?_
    obtain ⟨d, μ3, hd, q⟩ := askM P2
    exact k av θ2 sd μ2 σ H2 x v ds vs d μ3 Q R2.plain (repG g2 r1.1) r2 hd q
theorem pd_mu0 {o : Expr} {name : Str} {id : String} {apos cpos : Pos} {g : Mem → D → List D → Option (D × Mem)} (slot : Slot "list" name id) (hty : typeOf (.builtin id) = pure (.type "method_descriptor")) (hm : MuD X id g)
    (ho : PE X o (tE X.K X.mg H0 W f)) (hbase : attributeBase o name X.env (eval o X.env) = eval o X.env := by rfl) (hline : (apos.endLine == cpos.line) = true := by rfl) :
    PE X (.Call (.Attribute o name apos) [] [] cpos) (tE X.K X.mg H0 W (eMu g f eNil)) := by
  obtain ⟨r, hr, k⟩ := hm H0
  refine wkE (pe_bm0 PySem.F.plainAttrs_list slot hty hr ho hbase hline) fun σ H Q ⟨av, θ, sd, μ, R, P⟩ => ⟨av, θ, sd, μ, R, P.bind antiD fun x μ1 v θ1 H1 nv g1 R1 r1 P1 => ?_⟩
  cases hx : isLst μ1 x with
  | none => rw [hx] at P1; exact P1.elim
  | some es =>
    rw [hx] at P1
    have P1 : Post X.K X.mg H0 W (relD X.K X.mg H0) av θ1 sd σ H1 Q ((g μ1 x []).map fun z => (.ok z.1, z.2)) := P1
    obtain ⟨d, μ3, hd, q⟩ := askM P1
    exact ⟨lst_ty R1.plain r1.1 hx, k av θ1 sd μ1 σ H1 x v [] [] d μ3 Q R1.plain r1.1 rfl hd q⟩
/-- xs.append(d) -/
def muAppend (μ : Mem) (x : D) (ds : List D) : Option (D × Mem) := match x, ds with
  | .ref n, [d] => match d with
    | .new _ => none
    | d => match μ[n]? with
      | some (.lst es) => if es.length < sizeLine then some (.non, μ.set n (.lst (es ++ [d]))) else none
      | _ => none
  | _, _ => none
theorem repL.snoc {K : PySem.W.Frag} {mg : Mg} {d : D} {v : V} (rd : rep K mg H0 av θ H d v) : ∀ {ds : List D} {xs : List V}, repL K mg H0 av θ H ds xs → repL K mg H0 av θ H (ds ++ [d]) (xs ++ [v])
  | [], xs, h => by
    have h : xs = [] := h
    subst h
    exact ⟨v, [], rfl, rd, rfl⟩
  | e :: ds, _, ⟨x, r, q, h, t⟩ => by
    subst q
    exact ⟨x, r ++ [v], rfl, h, repL.snoc rd t⟩
theorem mu_append : MuD X "list.append" muAppend := fun H0 => by
  refine ⟨_, mt_append, fun av θ sd μ σ H dx x ds xs d μ' Q R rx rl hg q => ?_⟩
  cases dx with
  | ref n =>
    obtain ⟨a, rfl, hn⟩ := rx
    match ds, rl with
    | [y], ⟨v, rr, e1, ry, e2⟩ =>
      have e2 : rr = [] := e2
      subst e2
      subst e1
      have hg : (match μ[n]? with
        | some (.lst es) => if es.length < sizeLine then some (D.non, μ.set n (.lst (es ++ [y]))) else none
        | _ => none) = some (d, μ') := by cases y <;> first | exact hg | cases hg
      cases hm : μ[n]? with
      | none => rw [hm] at hg; cases hg
      | some mo =>
        rw [hm] at hg
        cases mo with
        | ins C fs => cases hg
        | lst es =>
          have hg : (if es.length < sizeLine then some (D.non, μ.set n (MO.lst (es ++ [y]))) else none) = some (d, μ') := hg
          by_cases z : es.length < sizeLine
          · rw [if_pos z] at hg
            cases hg
            obtain ⟨ys, t, rs⟩ := R.mem n _ a hm hn
            refine ⟨a, ys, v, rfl, rfl, t, by rw [repL.length rs]; exact z, ?_⟩
            have ha : a ∈ θ := List.mem_of_getElem? hn
            have g0 : Gr θ θ H (upd H a (.lst (ys ++ [v]))) := ⟨List.prefix_refl _, fun b h m => absurd h m, fun b u m e => by rw [upd_ne (fun z => m (by rw [z]; exact ha))]; exact e⟩
            obtain ⟨g, R'⟩ := R.setO hn (mo := .lst (es ++ [y])) (o := .lst (ys ++ [v])) ⟨_, upd_same, repL.gr g0 _ _ (repL.snoc ry rs)⟩
            exact q .non _ [] g R' ⟨rfl, fun _ e => by cases e⟩
          · rw [if_neg z] at hg; cases hg
    | [], _ => cases hg
    | _ :: _ :: _, _ => cases hg
  | _ => cases hg
end
end DL
set_option Elab.async false
set_option linter.all false
set_option maxRecDepth 100000
/-! DL, part e: loops, comprehensions, calls, defs. -/
namespace DL
open PySem PySem.Spec PyProof.Rows L2

/-! ### what is walked: the items, and what has to stand as it stood -/
abbrev IE := Sl → Mem → R3 (List D × (Mem → Prop))
open Classical in
noncomputable def loopF (chk : Mem → Prop) (t : TgD) (b : SS) : List D → SS
  | [], sd, μ => some (.nx, sd, μ)
  | d :: ds, sd, μ => match t sd μ d with
    | none => none
    | some (sd1, μ1) => match b sd1 μ1 with
      | some (.nx, sd2, μ2) => if chk μ2 then loopF chk t b ds sd2 μ2 else none
      | some (.ct, sd2, μ2) => if chk μ2 then loopF chk t b ds sd2 μ2 else none
      | some (.brk, sd2, μ2) => some (.nx, sd2, μ2)
      | r => r
noncomputable def sFor (it : IE) (t : TgD) (b : SS) : SS := fun sd μ => match it sd μ with
  | none => none
  | some (.error e, μ1) => some (.exc e, sd, μ1)
  | some (.ok (ds, chk), μ1) => loopF chk t b ds sd μ1
/-- the walked thing yields these items -/
def ItOk (K : PySem.W.Frag) (mg : Mg) (H0 : Hp) (av : List Addr) (J : It) (ds : List D) (chk : Mem → Prop) (θ : List Addr) (H : Hp) : Prop :=
  ∀ (i : Nat) (bv θ1 : List Addr) (sd1 : Sl) (μ1 : Mem) (σ1 : L2.St) (H1 : Hp), Gr θ θ1 H H1 → (∀ b ∈ bv, b ∈ av ∨ H b = none) → RS K mg H0 bv θ1 sd1 μ1 σ1 H1 → chk μ1 →
    (∀ d, ds[i]? = some d → J.go i H1 ∧ ∀ x H2, J.yld i H1 x H2 → Exh H1 H2 ∧ rep K mg H0 bv θ1 H2 d x) ∧ (ds.length ≤ i → J.stop i H1)
def PostI (K : PySem.W.Frag) (mg : Mg) (H0 : Hp) (W : WX) (av θ : List Addr) (sd : Sl) (σ : L2.St) (H : Hp) (R : It → Hp → Prop) (o : R3 (List D × (Mem → Prop))) : Prop := match o with
  | none => False
  | some (.error e, μ') => ∀ cls dd θ' H', Gr θ θ' H H' → RS K mg H0 av θ' sd μ' σ H' → repX K mg H0 av θ' H' e cls dd → W cls dd σ H'
  | some (.ok (ds, chk), μ') => ∀ J θ' H', Gr θ θ' H H' → RS K mg H0 av θ' sd μ' σ H' → chk μ' → ItOk K mg H0 av J ds chk θ' H' → R J H'
def tI (K : PySem.W.Frag) (mg : Mg) (H0 : Hp) (W : WX) (f : IE) : TI := fun σ H R => ∃ av θ sd μ, RS K mg H0 av θ sd μ σ H ∧ PostI K mg H0 W av θ sd σ H R (f sd μ)

section
variable {H0 : Hp} {W : WX} {X : Cx} {a b c e : Expr} {es : List Expr} {st : Stmt} {sts body : List Stmt} {pos : Pos} {f : EE} {fs gs : SS} {t : ET} {av θ : List Addr} {sd : Sl} {μ : Mem} {σ : L2.St} {H : Hp}
theorem wkI {tg iter : Expr} {w w' : TI} (h : PI X tg iter w) (k : ∀ σ H R, w' σ H R → w σ H R) : PI X tg iter w' := ⟨fun pins s σ H R I q => h.run pins s σ H R I (k σ H R q)⟩
theorem drop_get {α : Type} {l : List α} {i : Nat} (h : i < l.length) : l.drop i = l[i] :: l.drop (i + 1) := List.drop_eq_getElem_cons h
theorem ps_loop {tg iter : Expr} {fi : IE} {is : List Nat} {g : TgD} (hp : PassesOwn (model X.prog X.w) X.A X.env X.xe) (hc : X.calm = true) (hi : PI X tg iter (tI X.K X.mg H0 W fi)) (hg : PG X tg (tG X.K X.mg H0 is g)) (hb : PSs X body (tS X.K X.mg H0 W fs))
    (hs : ∀ x, foldedSetIterable iter X.env x = pure x := by intro _; rfl) : PS X (.For tg iter body [] pos) (tS X.K X.mg H0 W (sFor fi g fs)) := by
  refine wkS (L2.ps_for hp hc hi hg hb hs) fun E σ H ⟨av, θ, sd, μ, R, P⟩ => ⟨av, θ, sd, μ, R, ?_⟩
  unfold sFor at P
  match h : fi sd μ, P with
  | none, P => exact P
  | some (.error x, μ1), P => exact fun cls dd θ' H' g' R' r => P cls dd σ θ' H' g' R' r
  | some (.ok (ds, chk), μ1), P =>
    intro J θ' H' g' R' hk hJ
    have P : PostS X.K X.mg H0 W av θ' H' E (loopF chk g fs ds sd μ1) := PostS.rebase P g'
    refine ⟨fun i m σi Hi => m = ds.length - i ∧ i ≤ ds.length ∧ ∃ θi sdi μi, Gr θ' θi H' Hi ∧ RS X.K X.mg H0 av θi sdi μi σi Hi ∧ chk μi ∧ PostS X.K X.mg H0 W av θi Hi E (loopF chk g fs (ds.drop i) sdi μi),
      ⟨ds.length, by simp, Nat.zero_le _, θ', sd, μ1, Gr.refl, R', hk, by rw [List.drop_zero]; exact P⟩, ?_⟩
    rintro i m σi Hi ⟨rfl, hle, θi, sdi, μi, gi, Ri, hki, Pi⟩
    obtain ⟨hgo, hst⟩ := hJ i av θi sdi μi σi Hi gi (fun _ h => .inl h) Ri hki
    by_cases hlt : i < ds.length
    · obtain ⟨go, yl⟩ := hgo ds[i] (List.getElem?_eq_getElem hlt)
      rw [drop_get hlt] at Pi
      refine .inr ⟨go, fun σ2 H2 => ∃ θ2 sd2 μ2, Gr θ' θ2 H' H2 ∧ RS X.K X.mg H0 av θ2 sd2 μ2 σ2 H2 ∧ chk μ2 ∧ PostS X.K X.mg H0 W av θ2 H2 E (loopF chk g fs (ds.drop (i + 1)) sd2 μ2), fun σ2 H2 n => ⟨ds.length - (i + 1), by omega, rfl, hlt, n⟩, fun x H2 hy => ?_⟩
      obtain ⟨ex, rx⟩ := yl x H2 hy
      refine ⟨av, θi, sdi, μi, ds[i], Ri.grow ex, rx, ?_⟩
      cases hz : g sdi μi ds[i] with
      | none => unfold loopF at Pi; rw [hz] at Pi; exact Pi.elim
      | some z =>
        obtain ⟨sd1, μ1'⟩ := z
        have g2 : Gr θ' θi H' H2 := gi.trans (Gr.of_ex ex)
        intro σ3 θ3 H3 g3 R3 _ _
        refine ⟨av, θ3, sd1, μ1', R3, ?_⟩
        unfold loopF at Pi
        rw [hz] at Pi
        simp only at Pi
        have gg : Gr θi θ3 Hi H3 := (Gr.of_ex ex).trans g3
        match hb2 : fs sd1 μ1', Pi with
        | none, Pi => exact Pi
        | some (.nx, sd4, μ4), Pi =>
          simp only at Pi
          by_cases hc4 : chk μ4
          · rw [if_pos hc4] at Pi
            exact fun σ5 θ5 H5 g5 R5 => ⟨θ5, sd4, μ4, g2.trans (g3.trans g5), R5, hc4, PostS.rebase Pi (gg.trans g5)⟩
          · rw [if_neg hc4] at Pi; exact Pi.elim
        | some (.ct, sd4, μ4), Pi =>
          simp only at Pi
          by_cases hc4 : chk μ4
          · rw [if_pos hc4] at Pi
            exact fun σ5 θ5 H5 g5 R5 => ⟨θ5, sd4, μ4, g2.trans (g3.trans g5), R5, hc4, PostS.rebase Pi (gg.trans g5)⟩
          · rw [if_neg hc4] at Pi; exact Pi.elim
        | some (.brk, sd4, μ4), Pi => exact PostS.rebase Pi gg
        | some (.ret d, sd4, μ4), Pi => exact Pi
        | some (.exc x, sd4, μ4), Pi => exact PostS.rebase Pi gg
    · have : i = ds.length := by omega
      subst this
      rw [List.drop_length] at Pi
      exact .inl ⟨hst (Nat.le_refl _), Pi σi θi Hi Gr.refl Ri⟩

/-! ### list comprehensions -/
def wipeD (sd : Sl) : List Nat → Sl
  | [] => sd
  | v :: vs => (wipeD sd vs).set v none
theorem RS.wipe {K : PySem.W.Frag} {mg : Mg} (R : RS K mg H0 av θ sd μ σ H) : ∀ vs : List Nat, RS K mg H0 av θ (wipeD sd vs) μ (L2.wipe σ vs) H
  | [] => R
  | v :: vs => (R.wipe vs).unset v
theorem wipe_same {σ' : L2.St} : ∀ {vs : List Nat}, σ'.length = σ.length → (∀ i, i ∉ vs → σ'[i]? = σ[i]?) → L2.wipe σ' vs = L2.wipe σ vs := fun {vs} hl h => by
  apply List.ext_getElem?
  intro i
  have look : ∀ (ρ : L2.St) (ws : List Nat), (L2.wipe ρ ws)[i]? = if i ∈ ws then (ρ[i]?).map fun _ => none else ρ[i]? := fun ρ ws => by
    induction ws with
    | nil => simp [L2.wipe]
    | cons w ws ih =>
      unfold L2.wipe
      by_cases e : i = w
      · subst e
        rw [if_pos List.mem_cons_self]
        by_cases hi : i < ρ.length
        · rw [List.getElem?_set_self (by rw [wipe_length]; exact hi), List.getElem?_eq_getElem hi]; rfl
        · rw [List.getElem?_eq_none (by rw [List.length_set, wipe_length]; omega), List.getElem?_eq_none (by omega)]; rfl
      · rw [List.getElem?_set_ne (Ne.symm e), ih]
        by_cases m : i ∈ ws
        · rw [if_pos m, if_pos (List.mem_cons_of_mem _ m)]
        · rw [if_neg m, if_neg (fun q => (List.mem_cons.mp q).elim e m)]
  rw [look, look]
  by_cases m : i ∈ vs
  · rw [if_pos m, if_pos m]
    by_cases hi : i < σ.length
    · rw [List.getElem?_eq_getElem hi, List.getElem?_eq_getElem (by omega)]; rfl
    · rw [List.getElem?_eq_none (by omega), List.getElem?_eq_none (by omega)]
  · rw [if_neg m, if_neg m]; exact h i m
theorem wipe_wipe (vs : List Nat) : L2.wipe (L2.wipe σ vs) vs = L2.wipe σ vs := by
  refine wipe_same (wipe_length _ _) fun i h => ?_
  have : ∀ (ws : List Nat), i ∉ ws → (L2.wipe σ ws)[i]? = σ[i]? := fun ws hw => by
    induction ws with
    | nil => rfl
    | cons w ws ih =>
      unfold L2.wipe
      rw [List.getElem?_set_ne (fun q => hw (by rw [q]; exact List.mem_cons_self)), ih fun q => hw (List.mem_cons_of_mem _ q)]
  exact this vs h
def notNew : D → Bool
  | .new _ => false
  | _ => true
open Classical in
noncomputable def lcF (chk : Mem → Prop) (t : TgD) (q : ET) (f : EE) (sd : Sl) : List D → Mem → R3 (List D)
  | [], μ => some (.ok [], μ)
  | d :: ds, μ => match t sd μ d with
    | none => none
    | some (sd1, μ1) => match q sd1 μ1 with
      | some (.ok true, μ2) => match f sd1 μ2 with
        | some (.ok x, μ3) => if notNew x = true ∧ chk μ3 then bE (lcF chk t q f sd ds μ3) fun xs μ4 => some (.ok (x :: xs), μ4) else none
        | _ => none
      | some (.ok false, μ2) => if chk μ2 then lcF chk t q f sd ds μ2 else none
      | _ => none
theorem lcF_ok {chk : Mem → Prop} {t : TgD} {q : ET} {f : EE} {sd : Sl} : ∀ {ds : List D} {μ : Mem} {e : Exn} {μ' : Mem}, lcF chk t q f sd ds μ ≠ some (.error e, μ') := by
  intro ds
  induction ds with
  | nil => intro μ e μ' h; simp [lcF] at h
  | cons d ds ih =>
    intro μ e μ' h
    unfold lcF at h
    split at h
    · cases h
    · split at h
      · split at h
        · split at h
          · rename_i x μ3 _ _
            cases z : lcF chk t q f sd ds μ3 with
            | none => rw [z] at h; cases h
            | some w =>
              obtain ⟨r, m⟩ := w
              cases r with
              | error e' => exact ih z
              | ok xs => rw [z] at h; cases h
          · cases h
        · cases h
      · split at h
        · exact ih h
        · cases h
      · cases h
noncomputable def eLc (it : IE) (t : TgD) (q : ET) (f : EE) (vs : List Nat) : EE := fun sd μ => match it sd μ with
  | none => none
  | some (.error e, μ1) => some (.error e, μ1)
  | some (.ok (ds, chk), μ1) => if ds.length ≤ sizeLine then bE (lcF chk t q f (wipeD sd vs) ds μ1) fun xs μ2 => some (.ok (.new xs), μ2) else none
def qYes : ET := fun _ μ => some (.ok true, μ)
theorem pts_none : PTs X [] (tT X.K X.mg H0 W qYes) := ⟨fun pins s σ H Q I ⟨av, θ, sd, μ, R, P⟩ => pts_nil.run pins s σ H Q I (P true θ H [] Gr.refl R rfl)⟩
theorem pts_1 {c : Expr} {q : ET} (h : PT X c (tT X.K X.mg H0 W q)) : PTs X [c] (tT X.K X.mg H0 W q) := pts_one h
theorem lc_read {fi : IE} {is vs : List Nat} {g : TgD} {q : ET} {Q : VK} (his : ∀ i ∈ is, i ∈ vs) (hh : tE X.K X.mg H0 W (eLc fi g q f vs) σ H Q) :
    tLc (tI X.K X.mg H0 W fi) (tG X.K X.mg H0 is g) (tT X.K X.mg H0 WF q) (tE X.K X.mg H0 WF f) vs σ H Q := by
  obtain ⟨av, θ, sd, μ, R, P⟩ := hh
  refine ⟨av, θ, sd, μ, R, ?_⟩
  unfold eLc at P
  match h : fi sd μ, P with
  | none, P => exact P
  | some (.error x, μ1), P => exact fun cls dd θ' H' g' R' r => P cls dd θ' H' g' R' r
  | some (.ok (ds, chk), μ1), P =>
    simp only at P
    by_cases hz : ds.length ≤ sizeLine
    case neg => rw [if_neg hz] at P; exact P.elim
    rw [if_pos hz] at P
    intro J θ1 H1 g1 R1 hk hJ D hD
    cases hl : lcF chk g q f (wipeD sd vs) ds μ1 with
    | none => rw [hl] at P; exact P.elim
    | some w =>
      obtain ⟨rs, μf⟩ := w
      cases rs with
      | error e' => exact absurd hl lcF_ok
      | ok xs =>
        rw [hl] at P
        have e1 : Exh H1 (upd H1 D (.lst [])) := Exh.new hD
        have h0 : H0 D = none := R1.h0 hD
        refine ⟨fun i m Hi => m = ds.length - i ∧ i ≤ ds.length ∧ ∃ θi μi accd accv, Gr θ1 θi H1 Hi ∧ RS X.K X.mg H0 (D :: av) θi (wipeD sd vs) μi (L2.wipe σ vs) Hi ∧ chk μi ∧ Hi D = some (.lst accv) ∧ repL X.K X.mg H0 (D :: av) θi Hi accd accv ∧ accd.length ≤ i ∧
            ∃ rest, lcF chk g q f (wipeD sd vs) (ds.drop i) μi = some (.ok rest, μf) ∧ xs = accd ++ rest,
          ⟨ds.length, by simp, Nat.zero_le _, θ1, μ1, [], [], Gr.of_ex e1, (R1.push e1 hD upd_same trivial).wipe vs, hk, upd_same, rfl, Nat.zero_le _, xs, by rw [List.drop_zero]; exact hl, rfl⟩, ?_⟩
        rintro i m Hi ⟨rfl, hle, θi, μi, accd, accv, gi, Ri, hki, hDi, ra, hal, rest, hrest, exs⟩
        obtain ⟨hgo, hst⟩ := hJ i (D :: av) θi _ μi _ Hi gi (fun b h => (List.mem_cons.mp h).elim (fun e => .inr (by rw [e]; exact hD)) .inl) Ri hki
        by_cases hlt : i < ds.length
        · obtain ⟨go, yl⟩ := hgo ds[i] (List.getElem?_eq_getElem hlt)
          rw [drop_get hlt] at hrest
          refine .inr ⟨go, fun H2 => ∃ θ2 μ2 accd accv, Gr θ1 θ2 H1 H2 ∧ RS X.K X.mg H0 (D :: av) θ2 (wipeD sd vs) μ2 (L2.wipe σ vs) H2 ∧ chk μ2 ∧ H2 D = some (.lst accv) ∧ repL X.K X.mg H0 (D :: av) θ2 H2 accd accv ∧ accd.length ≤ i + 1 ∧
            ∃ rest, lcF chk g q f (wipeD sd vs) (ds.drop (i + 1)) μ2 = some (.ok rest, μf) ∧ xs = accd ++ rest, fun H2 n => ⟨ds.length - (i + 1), by omega, rfl, hlt, n⟩, fun x H2 hy => ?_⟩
          obtain ⟨ex, rx⟩ := yl x H2 hy
          have DDi : D ∈ D :: av := List.mem_cons_self
          -- the target
          unfold lcF at hrest
          cases hgz : g (wipeD sd vs) μi ds[i] with
          | none => rw [hgz] at hrest; cases hrest
          | some z =>
            obtain ⟨sd1, μ1'⟩ := z
            rw [hgz] at hrest
            simp only at hrest
            refine ⟨D :: av, θi, _, μi, ds[i], Ri.grow ex, rx, ?_⟩
            rw [hgz]
            intro σ3 θ3 H3 g3 R3 hl3 ho3
            have hw3 : L2.wipe σ3 vs = L2.wipe σ vs := (wipe_same hl3 fun j hj => ho3 j fun q => hj (his j q)).trans (wipe_wipe vs)
            refine ⟨hw3, D :: av, θ3, sd1, μ1', R3, ?_⟩
            have gi3 : Gr θi θ3 Hi H3 := (Gr.of_ex ex).trans g3
            -- the test
            cases hq : q sd1 μ1' with
            | none => rw [hq] at hrest; cases hrest
            | some w =>
              obtain ⟨rb, μ2⟩ := w
              cases rb with
              | error e' => rw [hq] at hrest; cases hrest
              | ok b =>
                rw [hq] at hrest
                intro y θ4 H4 nv g4 R4 ry
                have ry : y = b := ry
                subst ry
                have R4 := R4.plain
                have gi4 : Gr θi θ4 Hi H4 := gi3.trans g4
                have hD4 : H4 D = some (.lst accv) := gi4.keep D _ (Ri.avs D DDi).1 hDi
                have back : ∀ {θ5 H5 μ5}, Gr θi θ5 Hi H5 → RS X.K X.mg H0 (D :: av) θ5 sd1 μ5 σ3 H5 → RS X.K X.mg H0 (D :: av) θ5 (wipeD sd vs) μ5 (L2.wipe σ vs) H5 := fun g5 R5 => R5.slots (Ri.sls g5)
                cases y with
                | false =>
                  simp only at hrest
                  by_cases hc : chk μ2
                  · rw [if_pos hc] at hrest
                    exact ⟨θ4, μ2, accd, accv, gi.trans gi4, back gi4 R4, hc, hD4, repL.gr gi4 _ _ ra, Nat.le_succ_of_le hal, rest, hrest, exs⟩
                  · rw [if_neg hc] at hrest; cases hrest
                | true =>
                  simp only at hrest
                  refine ⟨D :: av, θ4, sd1, μ2, R4, ?_⟩
                  cases hf : f sd1 μ2 with
                  | none => rw [hf] at hrest; cases hrest
                  | some w =>
                    obtain ⟨rx5, μ5⟩ := w
                    cases rx5 with
                    | error e' => rw [hf] at hrest; cases hrest
                    | ok x5 =>
                      rw [hf] at hrest
                      simp only at hrest
                      by_cases hc : notNew x5 = true ∧ chk μ5
                      case neg => rw [if_neg hc] at hrest; cases hrest
                      rw [if_pos hc] at hrest
                      intro v5 θ5 H5 nv5 g5 R5 r5
                      have R5 := R5.plain
                      have gi5 : Gr θi θ5 Hi H5 := gi4.trans g5
                      have hD5 : H5 D = some (.lst accv) := gi5.keep D _ (Ri.avs D DDi).1 hDi
                      refine ⟨accv, hD5, ?_, ?_⟩
                      · rw [repL.length ra]; omega
                      · cases hr : lcF chk g q f (wipeD sd vs) (ds.drop (i + 1)) μ5 with
                        | none => rw [hr] at hrest; cases hrest
                        | some w6 =>
                          obtain ⟨rs6, μ6⟩ := w6
                          cases rs6 with
                          | error e' => exact absurd hr lcF_ok
                          | ok xs6 =>
                            rw [hr] at hrest
                            cases hrest
                            have gu : Gr θ1 θ5 H1 (upd H5 D (.lst (accv ++ [v5]))) := ⟨(gi.trans gi5).pre, (gi.trans gi5).nw, fun a o n hh => by
                              rw [upd_ne (fun z => by rw [z, hD] at hh; cases hh)]; exact (gi.trans gi5).keep a o n hh⟩
                            have R6 := (back gi5 R5).updAv (o := .lst (accv ++ [v5])) DDi h0 trivial
                            have ra6 : repL X.K X.mg H0 (D :: av) θ5 (upd H5 D (.lst (accv ++ [v5]))) (accd ++ [x5]) (accv ++ [v5]) :=
                              repL.tr (fun _ _ h => h) (goes_upd DDi) _ _ (repL.snoc r5.1 (repL.gr gi5 _ _ ra))
                            exact ⟨θ5, μ5, accd ++ [x5], accv ++ [v5], gu, R6, hc.2, upd_same, ra6, by rw [List.length_append]; simp; exact hal, xs6, hr, by rw [exs]; simp⟩
        · have : i = ds.length := by omega
          subst this
          rw [List.drop_length] at hrest
          simp only [lcF] at hrest
          cases hrest
          refine .inl ⟨hst (Nat.le_refl _), ?_⟩
          have ge : Gr θ θi H Hi := g1.trans gi
          have hDH : H D = none := R1.back g1 hD
          have Rf : RS X.K X.mg H0 (D :: av) θi sd μf σ Hi := Ri.slots ⟨R.sl.1, fun j d h => by
            obtain ⟨v, hv, r⟩ := R.sl.2 j d h
            exact ⟨v, hv, rep.push ge hDH d v r⟩⟩
          rw [List.append_nil] at exs
          subst exs
          exact P (.ref D) θi Hi [D] ge Rf ⟨⟨D, accv, rfl, (Ri.avs D List.mem_cons_self).1, R1.notav hD, h0, hDi, repL.few (fun b h => List.mem_cons_of_mem _ h) _ _ ra⟩, fun ds' e => by
            cases e
            exact ⟨D, accv, rfl, rfl, hDH, hDi, ra⟩⟩
theorem pd_lc {elt tg iter : Expr} {ifs : List Expr} {scope : Scope} {own : List (Str × Nat)} {fi : IE} {is : List Nat} {g : TgD} {q : ET} (hc : X.calm = true) (hN : X.N.Nodup) (hi : PI X tg iter (tI X.K X.mg H0 W fi)) (ok : BlkOk X.N X.env.scope scope own)
    (hg : ∀ (s : Shared) (H : Hp) (C : Addr) (cl : List (Str × Addr)) (fp : List Addr), PG (X.blk s H scope (compEnvC scope cl C X.env) fp) tg (tG X.K X.mg H0 is g)) (his : ∀ i ∈ is, i ∈ own.map (·.2))
    (ht : ∀ (s : Shared) (H : Hp) (C : Addr) (cl : List (Str × Addr)) (fp : List Addr), PTs (X.blk s H scope (compEnvC scope cl C X.env) fp) ifs (tT X.K X.mg H0 WF q))
    (he : ∀ (s : Shared) (H : Hp) (C : Addr) (cl : List (Str × Addr)) (fp : List Addr), PE (X.blk s H scope (compEnvC scope cl C X.env) fp) elt (tE X.K X.mg H0 WF f)) (hs : ∀ x, foldedSetIterable iter X.env x = pure x := by intro _; rfl) :
    PE X (.ListComp elt [⟨tg, iter, ifs, 0⟩] scope pos) (tE X.K X.mg H0 W (eLc fi g q f (own.map (·.2)))) :=
  wkE (pe_lc hc hN hi ok hg ht he hs) fun σ H Q h => lc_read his h
end
end DL
set_option Elab.async false
set_option linter.all false
set_option maxRecDepth 100000
/-! DL, part f: defs and their calls. -/
namespace DL
open PySem PySem.Spec PyProof.Rows L2

/-! ### arguments -/
mutual
def okA : D → Bool
  | .non | .bl _ | .int _ | .str _ | .glob _ | .ty _ => true
  | .tup ds | .lst ds | .lck ds => okAL ds
  | .obj _ fs | .bor _ fs => okAF fs
  | _ => false
def okAL : List D → Bool
  | [] => true
  | d :: ds => okA d && okAL ds
def okAF : List (Str × D) → Bool
  | [] => true
  | (_, d) :: ds => okA d && okAF ds
end
def argD (μ : Mem) (d : D) : Option D := match d with
  | .new ds => if okAL ds then some (.lst ds) else none
  | .fr ds => if okAL ds then some (.lst ds) else none
  | .ref n => match μ[n]? with
    | some (.lst ds) => if okAL ds then some (.lst ds) else none
    | some (.ins C fs) => if okAF fs then some (.bor C fs) else none
    | none => none
  | d => if okA d then some d else none
def argsD (μ : Mem) : List D → Option (List D)
  | [] => some []
  | d :: ds => (argD μ d).bind fun x => (argsD μ ds).map fun xs => x :: xs

section
variable {K : PySem.W.Frag} {mg : Mg} {H0 H H1 H' : Hp} {av θ : List Addr} {sd : Sl} {μ : Mem} {σ : L2.St}
theorem TupAt.arg {a : Addr} {xs : List V} (h : TupAt K av θ H a xs) : TupAt K (θ ++ av) [] H a xs := by
  rcases h with ⟨n, m, h⟩ | h
  · exact .inl ⟨by simp, fun q => (List.mem_append.mp q).elim n m, h⟩
  · exact .inr h
theorem SqL.exh {a : Addr} {xs : List V} (e : Exh H0 H) (h : SqL K H0 a xs) : SqL K H a xs := by
  rcases h with h | h
  · exact .inl (e.rd h)
  · exact .inr h
mutual
theorem rep.arg (e : Exh H0 H) : ∀ (d : D) (v : V), okA d = true → rep K mg H0 av θ H d v → rep K mg H (θ ++ av) [] H d v
  | .non, _, _, h => h
  | .bl _, _, _, h => h
  | .int _, _, _, h => h
  | .str _, _, _, h => h
  | .glob _, _, _, h => h
  | .ty _, _, _, h => h
  | .tup ds, _, p, ⟨a, xs, q, t, r⟩ => ⟨a, xs, q, t.arg, repL.arg e ds xs (by simpa [okA] using p) r⟩
  | .lst ds, _, p, ⟨a, xs, q, t, r⟩ => ⟨a, xs, q, e _ _ t, repL.arg e ds xs (by simpa [okA] using p) r⟩
  | .lck ds, _, p, ⟨a, xs, q, t, r⟩ => ⟨a, xs, q, SqL.exh e t, repL.arg e ds xs (by simpa [okA] using p) r⟩
  | .obj _ fs, _, p, ⟨a, c, dx, vs, q, n, m, hc, t, r⟩ => ⟨a, c, dx, vs, q, by simp, fun z => (List.mem_append.mp z).elim n m, hc, t, repF.arg e fs vs (by simpa [okA] using p) r⟩
  | .bor _ fs, _, p, ⟨a, c, dx, vs, q, hc, t, r⟩ => ⟨a, c, dx, vs, q, hc, e _ _ t, repF.arg e fs vs (by simpa [okA] using p) r⟩
  | .fr _, _, p, _ => by simp [okA] at p
  | .new _, _, p, _ => by simp [okA] at p
  | .ref _, _, p, _ => by simp [okA] at p
  | .exh _ _ _ _, _, p, _ => by simp [okA] at p
theorem repL.arg (e : Exh H0 H) : ∀ (ds : List D) (xs : List V), okAL ds = true → repL K mg H0 av θ H ds xs → repL K mg H (θ ++ av) [] H ds xs
  | [], _, _, h => h
  | d :: ds, _, p, ⟨x, r, q, h, t⟩ => by
    simp only [okAL, Bool.and_eq_true] at p
    exact ⟨x, r, q, rep.arg e d x p.1 h, repL.arg e ds r p.2 t⟩
theorem repF.arg (e : Exh H0 H) : ∀ (ds : List (Str × D)) (xs : List (Str × V)), okAF ds = true → repF K mg H0 av θ H ds xs → repF K mg H (θ ++ av) [] H ds xs
  | [], _, _, h => h
  | (_, d) :: ds, _, p, ⟨x, r, q, h, t⟩ => by
    simp only [okAF, Bool.and_eq_true] at p
    exact ⟨x, r, q, rep.arg e d x p.1 h, repF.arg e ds r p.2 t⟩
end
theorem arg_ok {d d' : D} {v : V} (R : RS K mg H0 av θ sd μ σ H) (r : rep K mg H0 av θ H d v) (h : argD μ d = some d') : rep K mg H (θ ++ av) [] H d' v := by
  unfold argD at h
  split at h
  · split at h
    · rename_i p
      cases h
      obtain ⟨a, xs, e, n, m, f, t, r⟩ := r
      exact ⟨a, xs, e, t, repL.arg R.ex _ _ p r⟩
    · cases h
  · split at h
    · rename_i p
      cases h
      obtain ⟨a, xs, e, n, m, f, t, r⟩ := r
      exact ⟨a, xs, e, t, repL.arg R.ex _ _ p r⟩
    · cases h
  · obtain ⟨a, rfl, hn⟩ := r
    split at h
    · rename_i hm
      split at h
      · rename_i p
        cases h
        obtain ⟨xs, t, r⟩ := R.mem _ _ a hm hn
        exact ⟨a, xs, rfl, t, repL.arg R.ex _ _ p r⟩
      · cases h
    · rename_i hm
      split at h
      · rename_i p
        cases h
        obtain ⟨c, dx, vs, hc, t, r⟩ := R.mem _ _ a hm hn
        exact ⟨a, c, dx, vs, rfl, hc, t, repF.arg R.ex _ _ p r⟩
      · cases h
    · cases h
  · split at h
    · rename_i p
      cases h
      exact rep.arg R.ex _ _ p r
    · cases h
theorem args_ok (R : RS K mg H0 av θ sd μ σ H) : ∀ {ds ds' : List D} {vs : List V}, repL K mg H0 av θ H ds vs → argsD μ ds = some ds' → repL K mg H (θ ++ av) [] H ds' vs
  | [], _, _, r, h => by cases h; exact r
  | d :: ds, _, _, ⟨x, rr, e, rx, rt⟩, h => by
    unfold argsD at h
    cases h1 : argD μ d with
    | none => rw [h1] at h; cases h
    | some d1 =>
      rw [h1] at h
      cases h2 : argsD μ ds with
      | none => rw [h2] at h; cases h
      | some ds1 =>
        rw [h2] at h
        cases h
        exact ⟨x, rr, e, arg_ok R rx h1, args_ok R rt h2⟩
theorem argsD_length {μ : Mem} : ∀ {ds ds' : List D}, argsD μ ds = some ds' → ds'.length = ds.length
  | [], _, h => by cases h; rfl
  | d :: ds, _, h => by
    unfold argsD at h
    cases h1 : argD μ d with
    | none => rw [h1] at h; cases h
    | some d1 =>
      rw [h1] at h
      cases h2 : argsD μ ds with
      | none => rw [h2] at h; cases h
      | some ds1 =>
        rw [h2] at h
        cases h
        rw [List.length_cons, List.length_cons, argsD_length h2]

/-! ### what comes back -/
theorem TupAt.back {a : Addr} {xs : List V} (h : TupAt K (θ ++ av) [] H a xs) : TupAt K av θ H a xs := by
  rcases h with ⟨n, m, h⟩ | h
  · exact .inl ⟨fun q => m (List.mem_append_left _ q), fun q => m (List.mem_append_right _ q), h⟩
  · exact .inr h
mutual
theorem rep.ret (f : ∀ a, H1 a = none → H0 a = none) : ∀ (d : D) (v : V), plain d = true → rep K mg H1 (θ ++ av) [] H d v → rep K mg H0 av θ H d v
  | .non, _, _, h => h
  | .bl _, _, _, h => h
  | .int _, _, _, h => h
  | .str _, _, _, h => h
  | .glob _, _, _, h => h
  | .ty _, _, _, h => h
  | .tup ds, _, p, ⟨a, xs, q, t, r⟩ => ⟨a, xs, q, t.back, repL.ret f ds xs (by simpa [plain] using p) r⟩
  | .fr ds, _, p, ⟨a, xs, q, n, m, z, t, r⟩ => ⟨a, xs, q, fun z => m (List.mem_append_left _ z), fun z => m (List.mem_append_right _ z), f _ z, t, repL.ret f ds xs (by simpa [plain] using p) r⟩
  | .obj _ fs, _, p, ⟨a, c, dx, vs, q, n, m, hc, t, r⟩ => ⟨a, c, dx, vs, q, fun z => m (List.mem_append_left _ z), fun z => m (List.mem_append_right _ z), hc, t, repF.ret f fs vs (by simpa [plain] using p) r⟩
  | .lst _, _, p, _ => by simp [plain] at p
  | .lck _, _, p, _ => by simp [plain] at p
  | .new _, _, p, _ => by simp [plain] at p
  | .ref _, _, p, _ => by simp [plain] at p
  | .bor _ _, _, p, _ => by simp [plain] at p
  | .exh _ _ _ _, _, p, _ => by simp [plain] at p
theorem repL.ret (f : ∀ a, H1 a = none → H0 a = none) : ∀ (ds : List D) (xs : List V), plainL ds = true → repL K mg H1 (θ ++ av) [] H ds xs → repL K mg H0 av θ H ds xs
  | [], _, _, h => h
  | d :: ds, _, p, ⟨x, r, q, h, t⟩ => by
    simp only [plainL, Bool.and_eq_true] at p
    exact ⟨x, r, q, rep.ret f d x p.1 h, repL.ret f ds r p.2 t⟩
theorem repF.ret (f : ∀ a, H1 a = none → H0 a = none) : ∀ (ds : List (Str × D)) (xs : List (Str × V)), plainF ds = true → repF K mg H1 (θ ++ av) [] H ds xs → repF K mg H0 av θ H ds xs
  | [], _, _, h => h
  | (_, d) :: ds, _, p, ⟨x, r, q, h, t⟩ => by
    simp only [plainF, Bool.and_eq_true] at p
    exact ⟨x, r, q, rep.ret f d x p.1 h, repF.ret f ds r p.2 t⟩
end
/-- a call's answer, in the caller's hands -/
theorem ret_ok {d : D} {v : V} (R : RS K mg H0 av θ sd μ σ H1) (e : Exh H1 H) (r : repR K mg H1 (θ ++ av) H d v) : ∃ nv, RS K mg H0 (nv ++ av) θ sd μ σ H ∧ relD K mg H0 av θ H1 H nv d v := by
  obtain ⟨ok, r, rn⟩ := r
  have back : ∀ a, H1 a = none → H0 a = none := fun a h => R.ex.back h
  by_cases hn : ∃ ds, d = .new ds
  · obtain ⟨ds, rfl⟩ := hn
    obtain ⟨p, xs, rfl, hp, rl⟩ := rn ds rfl
    obtain ⟨a, _, ea, n, m, f, t, _⟩ := r
    cases ea
    have rl2 : repL K mg H0 (p :: av) θ H ds xs := repL.ret (θ := θ) (av := p :: av) back _ _ ok (repL.few (av := p :: (θ ++ av)) (fun b hb => by
      rcases List.mem_append.mp hb with q | q
      · exact List.mem_cons_of_mem _ (List.mem_append_left _ q)
      · rcases List.mem_cons.mp q with q | q
        · rw [q]; exact List.mem_cons_self
        · exact List.mem_cons_of_mem _ (List.mem_append_right _ q)) _ _ rl)
    exact ⟨[p], R.push e f hp trivial, ⟨p, xs, rfl, fun z => m (List.mem_append_left _ z), fun z => m (List.mem_append_right _ z), back _ f, hp, repL.few (fun b hb => List.mem_cons_of_mem _ hb) _ _ rl2⟩,
      fun _ e => by cases e; exact ⟨p, xs, rfl, rfl, f, hp, rl2⟩⟩
  · have hp : plain d = true := by
      cases d <;> first | exact ok | exact absurd ⟨_, rfl⟩ hn
    exact ⟨[], R.grow e, rep.ret back _ _ hp r, fun ds e => absurd ⟨ds, e⟩ hn⟩
theorem retX_ok {e : Exn} {cls : Value} {dd : Option Addr} (R : RS K mg H0 av θ sd μ σ H1) (r : repX K mg H1 (θ ++ av) [] H e cls dd) : repX K mg H0 av θ H e cls dd := by
  rcases r with ⟨c, d, vs, h1, h2, h3, n, m, h4, p, r⟩ | r
  · exact .inl ⟨c, d, vs, h1, h2, h3, fun z => m (List.mem_append_left _ z), fun z => m (List.mem_append_right _ z), h4, p, repF.ret (fun a h => R.ex.back h) _ _ p r⟩
  · exact .inr r
end

/-! ### promises -/
abbrev Mir := List D → Option (Except Exn D)
def spD (K : PySem.W.Frag) (mg : Mg) (np : Nat) (m : Mir) : Sp := fun vs H Q E => ∃ av ds, (∀ a ∈ av, ∃ o, H a = some o ∧ Mut (some o)) ∧ repL K mg H av [] H ds vs ∧ ds.length = np ∧ match m ds with
  | none => False
  | some (.ok d) => ∀ v H', Exh H H' → repR K mg H av H' d v → Q v H'
  | some (.error e) => ∀ cls dd H', Exh H H' → repX K mg H av [] H' e cls dd → E cls dd H'
/-- a def by its body: n slots -/
def runF (n : Nat) (body : SS) : Mir := fun ds => match body (ds.map some ++ List.replicate (n - ds.length) none) [] with
  | some (.ret d, _, _) => some (.ok d)
  | some (.nx, _, _) => some (.ok .non)
  | some (.exc e, _, _) => some (.error e)
  | _ => none
/-- a def that stands, with its promise -/
def FnD (P : Program) (w : World) (K : PySem.W.Frag) (mg : Mg) (base : Heap) (x : Str) (k np : Nat) (m : Mir) : Prop :=
  ∃ f fd ps, mg x = some (.ref f) ∧ PySem.W.keepIn K (.ref f) = true ∧ Binds K fd ps [] ∧ ps.length = np ∧ FnOk P w K mg base (L2.CX P w) k f fd ps (spD K mg np m)
theorem FnD.mono {P : Program} {w : World} {K : PySem.W.Frag} {mg : Mg} {base : Heap} {x : Str} {k j np : Nat} {m : Mir} (h : FnD P w K mg base x k np m) (q : k ≤ j) : FnD P w K mg base x j np m :=
  let ⟨f, fd, ps, a, b, c, d, e⟩ := h
  ⟨f, fd, ps, a, b, c, d, e.mono q⟩
section
variable {P : Program} {w : World} {K : PySem.W.Frag} {mg : Mg} {base : Heap}
/-- THE RULE for a def -/
theorem def_ok {x qual : Str} {st : Stmt} {f : Addr} {fd : FuncData} {N ps : List Str} {k : Nat} {body : SS} (F : Fun K x qual st f fd) (S : FnScope N ps (defScope st))
    (hbody : ∀ (cdv : Value) (A : Around) (outer : List Env) (s : Shared) (H : Hp) (E : XK), Room k (A.deeper (envOfC qual (defScope st) s.heap.objs.size f cdv)) →
      PSs (cxOf (L2.CX P w) P w K mg base N qual (defScope st) f cdv A outer s H E) (defBody st) (tS K mg H (fun cls d _ H' => E cls d H') body)) :
    FnOk P w K mg base (L2.CX P w) (k + 1) f fd ps (spD K mg ps.length (runF N.length body)) := by
  refine F.okX S (fun vs H Q E h => ?_) (fun cdv A outer s H vs Q E hr h => ⟨_, hbody cdv A outer s H E hr, ?_⟩)
  · obtain ⟨av, ds, _, r, hl, _⟩ := h
    rw [repL.length r]; exact hl
  · obtain ⟨av, ds, hav, r, hl, h⟩ := h
    have hps : ps.length ≤ N.length := by
      have := congrArg List.length S.pre
      rw [List.length_take] at this
      omega
    have hlv := repL.length r
    refine ⟨av, [], ds.map some ++ List.replicate (N.length - ds.length) none, [], ⟨Exh.refl H, by simp, List.nodup_nil, rfl, fun n mo a h => by simp at h, fun a q => ⟨by simp, hav a q⟩, ?_, fun i d hd => ?_⟩, ?_⟩
    · unfold L2.start
      simp only [List.length_append, List.length_map, List.length_replicate]
      omega
    · have hi : i < ds.length := by
        by_cases q : i < ds.length
        · exact q
        · rw [List.getElem?_append_right (by simpa using q), List.getElem?_replicate] at hd
          split at hd <;> cases hd
      rw [List.getElem?_append_left (by simpa using hi), List.getElem?_map] at hd
      have key : ∀ {ds : List D} {vs : List V} {i : Nat} {d : D}, repL K mg H av [] H ds vs → ds[i]? = some d → ∃ v, vs[i]? = some v ∧ rep K mg H av [] H d v := by
        intro ds
        induction ds with
        | nil => intro vs i d _ h; simp at h
        | cons d0 ds ih =>
          intro vs i d hr h
          obtain ⟨x, rr, rfl, rx, rt⟩ := hr
          cases i with
          | zero =>
            simp at h
            subst h
            exact ⟨x, rfl, rx⟩
          | succ i =>
            obtain ⟨v, a, b⟩ := ih rt (by simpa using h)
            exact ⟨v, by simpa using a, b⟩
      cases hq : ds[i]? with
      | none => rw [hq] at hd; cases hd
      | some d1 =>
        rw [hq] at hd
        cases hd
        obtain ⟨v, a, b⟩ := key r hq
        refine ⟨v, ?_, b⟩
        unfold L2.start
        rw [List.getElem?_append_left (by simp; omega), List.getElem?_map, a]
        rfl
    · unfold runF at h
      match hb : body (ds.map some ++ List.replicate (N.length - ds.length) none) [], h with
      | none, h => exact h.elim
      | some (.nx, sd', μ'), h => exact fun σ' θ' H' g R => h .non H' R.ex ⟨rfl, rfl, fun _ e => by cases e⟩
      | some (.ret d, sd', μ'), h => exact h
      | some (.brk, sd', μ'), h => exact h.elim
      | some (.ct, sd', μ'), h => exact h.elim
      | some (.exc e, sd', μ'), h =>
        intro cls dd σ' θ' H' g R r
        refine h cls dd H' R.ex ?_
        rcases r with ⟨c, d, vs, h1, h2, h3, n, m, h4, p, r⟩ | r
        · exact .inl ⟨c, d, vs, h1, h2, h3, by simp, m, h4, p, repF.out _ _ p r⟩
        · exact .inr r
end

/-! ### a call -/
def eCall (m : Mir) (np : Nat) (a : EA) : EE := fun sd μ => bE (a sd μ) fun ds μ1 => (argsD μ1 ds).bind fun ds' => if ds'.length = np then match m ds' with
    | none => none
    | some (.ok d) => some (.ok d, μ1)
    | some (.error e) => some (.error e, μ1)
  else none
theorem pd_call {X : Cx} {W : WX} {H0 : Hp} {x : Str} {k j np : Nat} {m : Mir} {e : Expr} {es : List Expr} {ga : EA} {p pos : Pos} (F : FnD X.prog X.w X.K X.mg X.base x k np m) (tk : Takes X W) (hr : Room j X.A) (ha : PA X (e :: es) (tA X.K X.mg H0 W ga)) (hk : k ≤ j := by decide) (hg : Gl X x := by rfl)
    (hdb : (x == ("__debug__" : Str)) = false := by decide) (he : starEach (e :: es) X.env = (false, eval e X.env) :: starEach es X.env := by rfl) (hpl : (backTo pos (starEach es X.env)).any (·.1) = false := by rfl) :
    PE X (.Call (.Name x p) (e :: es) [] pos) (tE X.K X.mg H0 W (eCall m np ga)) := by
  obtain ⟨f, fd, ps, hm, hkp, hb, hps, F⟩ := F
  refine wkE (pe_callS F (hr.mono hk) hg hm hkp hb (fun σ => passAt tk σ) ha hdb he hpl) fun σ H Q ⟨av, θ, sd, μ, R, P⟩ => ⟨av, θ, sd, μ, R, P.bind antiD fun ds μ1 vs θ1 H1 nv g1 R1 r1 P1 => ?_⟩
  have R1 := R1.plain
  cases h1 : argsD μ1 ds with
  | none => rw [h1] at P1; exact P1.elim
  | some ds' =>
    rw [h1] at P1
    have P1 : Post X.K X.mg H0 W (relD X.K X.mg H0) av θ1 sd σ H1 Q (if ds'.length = np then match m ds' with
      | none => none
      | some (.ok d) => some (.ok d, μ1)
      | some (.error e) => some (.error e, μ1)
      else none) := P1
    by_cases hn : ds'.length = np
    case neg => rw [if_neg hn] at P1; exact P1.elim
    rw [if_pos hn] at P1
    refine ⟨θ1 ++ av, ds', fun a h => ?_, args_ok R1 r1 h1, hn, ?_⟩
    · rcases List.mem_append.mp h with h | h
      · exact R1.has h
      · exact (R1.avs a h).2
    · cases hm : m ds' with
      | none => rw [hm] at P1; exact P1.elim
      | some r =>
        rw [hm] at P1
        cases r with
        | ok d =>
          intro v H' ex rr
          obtain ⟨nv, R2, r2⟩ := ret_ok R1 ex rr
          exact P1 v θ1 H' nv (Gr.of_ex ex) R2 r2
        | error e =>
          intro cls dd H' ex rr
          exact P1 cls dd θ1 H' (Gr.of_ex ex) (R1.grow ex) (retX_ok R1 rr)
end DL
set_option Elab.async false
set_option linter.all false
set_option maxRecDepth 100000
/-! DL, part g: operators, built-ins, iterators. -/
namespace DL
open PySem PySem.Spec PyProof.Rows L2

section
variable {X : Cx}
/-! ### whole numbers -/
open Classical in
noncomputable def when_ {α : Type} (p : Prop) (x : Option α) : Option α := if p then x else none
theorem when_some {α : Type} {p : Prop} {x : Option α} {d : α} (h : when_ p x = some d) : p ∧ x = some d := by
  unfold when_ at h
  split at h
  · rename_i c
    exact ⟨c, h⟩
  · cases h
theorem when_t {α : Type} {p : Prop} {x : Option α} (h : p) : when_ p x = x := if_pos h
noncomputable def gI (C : Int → Int → Prop) (g : Int → Int → D) : Mem → D → D → Option D := fun _ x y => match x, y with
  | .int i, .int j => when_ (C i j) (some (g i j))
  | _, _ => none
theorem od_I {f : Value → Value → Sem Value} {C : Int → Int → Prop} {gv : Int → Int → V} {gd : Int → Int → D} (h : OpR X f (rI C gv)) (hr : ∀ i j (H0 : Hp) av θ (H : Hp), rep X.K X.mg H0 av θ H (gd i j) (gv i j))
    (hn : ∀ i j ds, gd i j ≠ .new ds) : OpD X f (gI C gd) := fun H0 => ⟨_, h, fun av θ sd μ σ H dx dy x y d Q R rx ry hg q => by
  cases dx with
  | int i =>
    cases dy with
    | int j =>
      obtain ⟨c, hg⟩ := when_some (show when_ _ _ = some d from hg)
      cases hg
      exact ⟨i, j, rx, ry, c, q.same R (hr i j H0 av θ H) (hn i j)⟩
    | _ => cases hg
  | _ => cases hg⟩
def gI0 (g : Int → Int → D) : Mem → D → D → Option D := fun _ x y => match x, y with
  | .int i, .int j => some (g i j)
  | _, _ => none
theorem od_I0 {f : Value → Value → Sem Value} {gv : Int → Int → V} {gd : Int → Int → D} (h : OpR X f (rI0 gv)) (hr : ∀ i j (H0 : Hp) av θ (H : Hp), rep X.K X.mg H0 av θ H (gd i j) (gv i j))
    (hn : ∀ i j ds, gd i j ≠ .new ds) : OpD X f (gI0 gd) := fun H0 => ⟨_, h, fun av θ sd μ σ H dx dy x y d Q R rx ry hg q => by
  cases dx with
  | int i =>
    cases dy with
    | int j =>
      cases hg
      exact ⟨i, j, rx, ry, q.same R (hr i j H0 av θ H) (hn i j)⟩
    | _ => cases hg
  | _ => cases hg⟩
def gAddI := gI0 fun i j => .int (i + j)
def gSubI := gI0 fun i j => .int (i - j)
instance (i j : Int) : Decidable (CMulW i j) := by unfold CMulW; infer_instance
instance (i j : Int) : Decidable (CDivW i j) := by unfold CDivW; infer_instance
instance (i j : Int) : Decidable (CPow i j) := by unfold CPow; infer_instance
noncomputable def gMulI := gI CMulW fun i j => .int (i * j)
noncomputable def gDivI := gI CDivW fun i j => .int (i / j)
noncomputable def gModI := gI (fun _ j => 0 < j) fun i j => .int (i % j)
noncomputable def gPowI := gI CPow fun i j => .int (i ^ j.toNat)
theorem od_addI : OpD X (binaryOp .Add) gAddI := od_I0 op_add (fun _ _ _ _ _ _ => rfl) (fun _ _ _ e => by cases e)
theorem od_subI : OpD X (binaryOp .Sub) gSubI := od_I0 op_sub (fun _ _ _ _ _ _ => rfl) (fun _ _ _ e => by cases e)
theorem od_mulI : OpD X (binaryOp .Mult) gMulI := od_I op_mulW (fun _ _ _ _ _ _ => rfl) (fun _ _ _ e => by cases e)
theorem od_divI : OpD X (binaryOp .FloorDiv) gDivI := od_I op_fdivW (fun _ _ _ _ _ _ => rfl) (fun _ _ _ e => by cases e)
theorem od_modI : OpD X (binaryOp .Mod) gModI := od_I op_mod (fun _ _ _ _ _ _ => rfl) (fun _ _ _ e => by cases e)
theorem od_powI : OpD X (binaryOp .Pow) gPowI := od_I op_pow (fun _ _ _ _ _ _ => rfl) (fun _ _ _ e => by cases e)
theorem od_iaddI : OpD X (inplaceOp .Add) gAddI := od_I0 iop_add (fun _ _ _ _ _ _ => rfl) (fun _ _ _ e => by cases e)
theorem od_isubI : OpD X (inplaceOp .Sub) gSubI := od_I0 iop_sub (fun _ _ _ _ _ _ => rfl) (fun _ _ _ e => by cases e)
def gLtI := gI0 fun i j => .bl (decide (i < j))
def gLeI := gI0 fun i j => .bl (decide (i ≤ j))
def gGtI := gI0 fun i j => .bl (decide (j < i))
def gGeI := gI0 fun i j => .bl (decide (j ≤ i))
theorem od_ltI : OpD X (compareOp .Lt) gLtI := od_I0 op_lt (fun _ _ _ _ _ _ => rfl) (fun _ _ _ e => by cases e)
theorem od_leI : OpD X (compareOp .LtE) gLeI := od_I0 op_le (fun _ _ _ _ _ _ => rfl) (fun _ _ _ e => by cases e)
theorem od_gtI : OpD X (compareOp .Gt) gGtI := od_I0 op_gt (fun _ _ _ _ _ _ => rfl) (fun _ _ _ e => by cases e)
theorem od_geI : OpD X (compareOp .GtE) gGeI := od_I0 op_ge (fun _ _ _ _ _ _ => rfl) (fun _ _ _ e => by cases e)
def gNeg : Mem → D → Option D := fun _ x => match x with
  | .int i => some (.int (-i))
  | _ => none
theorem ud_neg : UnD X (unaryOp .USub) gNeg := fun H0 => ⟨_, un_neg, fun av θ sd μ σ H dx x d Q R rx hg q => by
  cases dx with
  | int i => cases hg; exact ⟨i, rx, q.same R rfl (fun _ e => by cases e)⟩
  | _ => cases hg⟩

/-! ### None -/
def isNonD : D → Bool
  | .non => true
  | _ => false
theorem isNon_ok {K : PySem.W.Frag} {mg : Mg} {H0 : Hp} {av θ : List Addr} {H : Hp} {d : D} {v : V} (r : rep K mg H0 av θ H d v) : decide (v = .non) = isNonD d := by
  cases d with
  | non => exact decide_eq_true r
  | bl b => have r : v = .bl b := r; subst r; rfl
  | int i => have r : v = .int i := r; subst r; rfl
  | str s => have r : v = .str s := r; subst r; rfl
  | ty n => have r : v = .ty n := r; subst r; rfl
  | exh a d C fs => obtain ⟨c, vs, e, _⟩ := r; subst e; rfl
  | tup ds => obtain ⟨a, xs, rfl, _⟩ := r; rfl
  | lst ds => obtain ⟨a, xs, rfl, _⟩ := r; rfl
  | lck ds => obtain ⟨a, xs, rfl, _⟩ := r; rfl
  | fr ds => obtain ⟨a, xs, rfl, _⟩ := r; rfl
  | new ds => obtain ⟨a, xs, rfl, _⟩ := r; rfl
  | ref n => obtain ⟨a, rfl, _⟩ := r; rfl
  | glob x => obtain ⟨a, rfl, _⟩ := r; rfl
  | obj C fs => obtain ⟨a, c, dx, vs, rfl, _⟩ := r; rfl
  | bor C fs => obtain ⟨a, c, dx, vs, rfl, _⟩ := r; rfl
def gIsN (neg : Bool) : Mem → D → D → Option D := fun _ x y => match y with
  | .non => some (.bl (if neg then !isNonD x else isNonD x))
  | _ => none
theorem od_isN : OpD X (compareOp .Is) (gIsN false) := fun H0 => ⟨_, op_isN, fun av θ sd μ σ H dx dy x y d Q R rx ry hg q => by
  cases dy with
  | non => cases hg; exact ⟨ry, by rw [isNon_ok rx]; exact q.same R rfl (fun _ e => by cases e)⟩
  | _ => cases hg⟩
theorem od_notN : OpD X (compareOp .IsNot) (gIsN true) := fun H0 => ⟨_, op_notN, fun av θ sd μ σ H dx dy x y d Q R rx ry hg q => by
  cases dy with
  | non => cases hg; exact ⟨ry, by rw [isNon_ok rx]; exact q.same R rfl (fun _ e => by cases e)⟩
  | _ => cases hg⟩

/-! ### data: ==, in -/
mutual
def toP : D → Option PyData
  | .non => some .none
  | .bl b => some (.bool b)
  | .int i => some (.int i)
  | .str s => some (.str s)
  | .tup ds => (toPs ds).map .tuple
  | .lst ds | .lck ds | .fr ds | .new ds => (toPs ds).map .list
  | _ => none
def toPs : List D → Option (List PyData)
  | [] => some []
  | d :: ds => (toP d).bind fun p => (toPs ds).map fun ps => p :: ps
end
def toPm (μ : Mem) (d : D) : Option PyData := match d with
  | .ref n => match μ[n]? with
    | some (.lst ds) => (toPs ds).map .list
    | _ => none
  | d => toP d
section
variable {K : PySem.W.Frag} {mg : Mg} {H0 : Hp} {av θ : List Addr} {H : Hp} {sd : Sl} {μ : Mem} {σ : L2.St}
mutual
theorem toP_ok (R : RS K mg H0 av θ sd μ σ H) : ∀ (d : D) (v : V) (p : PyData), rep K mg H0 av θ H d v → toP d = some p → Dp K H v p
  | .non, _, _, r, h => by cases h; cases r; exact .non
  | .bl b, _, _, r, h => by cases h; cases r; exact .bl b
  | .int i, _, _, r, h => by cases h; cases r; exact .int i
  | .str s, _, _, r, h => by cases h; cases r; exact .str s
  | .tup ds, v, p, ⟨a, xs, e, t, r⟩, h => by
    subst e
    simp only [toP] at h
    cases q : toPs ds with
    | none => rw [q] at h; cases h
    | some ps => rw [q] at h; cases h; exact .tup t.sq (toPs_ok R ds xs ps r q)
  | .lst ds, v, p, ⟨a, xs, e, t, r⟩, h => by
    subst e
    simp only [toP] at h
    cases q : toPs ds with
    | none => rw [q] at h; cases h
    | some ps => rw [q] at h; cases h; exact .lst (.inl (.inl (R.ex _ _ t))) (toPs_ok R ds xs ps r q)
  | .lck ds, v, p, ⟨a, xs, e, t, r⟩, h => by
    subst e
    simp only [toP] at h
    cases q : toPs ds with
    | none => rw [q] at h; cases h
    | some ps => rw [q] at h; cases h; exact .lst (SqL.exh R.ex t) (toPs_ok R ds xs ps r q)
  | .fr ds, v, p, ⟨a, xs, e, _, _, _, t, r⟩, h => by
    subst e
    simp only [toP] at h
    cases q : toPs ds with
    | none => rw [q] at h; cases h
    | some ps => rw [q] at h; cases h; exact .lst (.inl (.inl t)) (toPs_ok R ds xs ps r q)
  | .new ds, v, p, ⟨a, xs, e, _, _, _, t, r⟩, h => by
    subst e
    simp only [toP] at h
    cases q : toPs ds with
    | none => rw [q] at h; cases h
    | some ps => rw [q] at h; cases h; exact .lst (.inl (.inl t)) (toPs_ok R ds xs ps r q)
  | .ref _, _, _, _, h => by simp [toP] at h
  | .glob _, _, _, _, h => by simp [toP] at h
  | .ty _, _, _, _, h => by simp [toP] at h
  | .obj _ _, _, _, _, h => by simp [toP] at h
  | .bor _ _, _, _, _, h => by simp [toP] at h
  | .exh _ _ _ _, _, _, _, h => by simp [toP] at h
theorem toPs_ok (R : RS K mg H0 av θ sd μ σ H) : ∀ (ds : List D) (vs : List V) (ps : List PyData), repL K mg H0 av θ H ds vs → toPs ds = some ps → DpAll K H vs ps
  | [], vs, ps, r, h => by
    have r : vs = [] := r
    subst r
    simp only [toPs] at h
    cases h
    exact .nil
  | d :: ds, vs, ps, ⟨x, rr, e, rx, rt⟩, h => by
    subst e
    simp only [toPs] at h
    cases q : toP d with
    | none => rw [q] at h; cases h
    | some p =>
      rw [q] at h
      cases q2 : toPs ds with
      | none => rw [q2] at h; cases h
      | some p2 =>
        rw [q2] at h
        cases h
        exact .cons (toP_ok R d x p rx q) (toPs_ok R ds rr p2 rt q2)
end
theorem toPm_ok (R : RS K mg H0 av θ sd μ σ H) {d : D} {v : V} {p : PyData} (r : rep K mg H0 av θ H d v) (h : toPm μ d = some p) : Dp K H v p := by
  cases d with
  | ref n =>
    obtain ⟨a, e, hn⟩ := r
    subst e
    have h : (match μ[n]? with
      | some (.lst ds) => (toPs ds).map PyData.list
      | _ => none) = some p := h
    cases hm : μ[n]? with
    | none => rw [hm] at h; cases h
    | some mo =>
      rw [hm] at h
      cases mo with
      | ins C fs => cases h
      | lst ds =>
        have h : (toPs ds).map PyData.list = some p := h
        obtain ⟨xs, t, r⟩ := R.mem n _ a hm hn
        cases q : toPs ds with
        | none => rw [q] at h; cases h
        | some ps => rw [q] at h; cases h; exact .lst (.inl (.inl t)) (toPs_ok R ds xs ps r q)
  | _ => exact toP_ok R _ _ _ r h
end
def gEqD (neg : Bool) : Mem → D → D → Option D := fun μ x y => (toPm μ x).bind fun p => (toPm μ y).bind fun q => if (SeqAt.shaped p && SeqAt.shaped q) = true then some (.bl (if neg then !PyData.eqv p q else PyData.eqv p q)) else none
theorem od_eqD (hu : X.A.units + 64 < cLine) : OpD X (compareOp .Eq) (gEqD false) := fun H0 => ⟨_, op_eqD hu, fun av θ sd μ σ H dx dy x y d Q R rx ry hg q => by
  unfold gEqD at hg
  cases h1 : toPm μ dx with
  | none => rw [h1] at hg; cases hg
  | some p =>
    cases h2 : toPm μ dy with
    | none => rw [h1, h2] at hg; cases hg
    | some p' =>
      rw [h1, h2] at hg
      simp only [Option.bind_some] at hg
      split at hg
      · rename_i hs
        cases hg
        rw [Bool.and_eq_true] at hs
        exact ⟨p, p', toPm_ok R rx h1, toPm_ok R ry h2, hs.1, hs.2, q.same R rfl (fun _ e => by cases e)⟩
      · cases hg⟩
theorem od_neD (hu : X.A.units + 64 < cLine) : OpD X (compareOp .NotEq) (gEqD true) := fun H0 => ⟨_, op_neD hu, fun av θ sd μ σ H dx dy x y d Q R rx ry hg q => by
  unfold gEqD at hg
  cases h1 : toPm μ dx with
  | none => rw [h1] at hg; cases hg
  | some p =>
    cases h2 : toPm μ dy with
    | none => rw [h1, h2] at hg; cases hg
    | some p' =>
      rw [h1, h2] at hg
      simp only [Option.bind_some] at hg
      split at hg
      · rename_i hs
        cases hg
        rw [Bool.and_eq_true] at hs
        exact ⟨p, p', toPm_ok R rx h1, toPm_ok R ry h2, hs.1, hs.2, q.same R rfl (fun _ e => by cases e)⟩
      · cases hg⟩
/-- x in a list or a tuple of data -/
def gInD (neg : Bool) : Mem → D → D → Option D := fun μ x y => (toPm μ x).bind fun p => (toPm μ y).bind fun q => match q with
  | .list ds => if (SeqAt.shaped p && SeqAt.shaped (.list ds)) = true then some (.bl (if neg then !(ds.any fun z => PyData.eqv z p) else ds.any fun z => PyData.eqv z p)) else none
  | .tuple ds => if (SeqAt.shaped p && SeqAt.shaped (.tuple ds)) = true then some (.bl (if neg then !(ds.any fun z => PyData.eqv z p) else ds.any fun z => PyData.eqv z p)) else none
  | _ => none
def rInT (K : PySem.W.Frag) (neg : Bool) : R2 := fun x y H Q => ∃ d ds, Dp K H x d ∧ (Dp K H y (.list ds) ∧ SeqAt.shaped (.list ds) = true ∨ Dp K H y (.tuple ds) ∧ SeqAt.shaped (.tuple ds) = true) ∧ SeqAt.shaped d = true ∧
  Q (.bl (if neg then !(ds.any fun z => PyData.eqv z d) else ds.any fun z => PyData.eqv z d)) H
theorem opr_in (hu : X.A.units + 65 < cLine) : OpR X (compareOp .In) (rInT X.K false) := by
  intro pins s σ H x y v u Q I rx ry h
  obtain ⟨d, ds, hd, hds, sd, q⟩ := h
  obtain ⟨as, r1⟩ := Dp.reads I d x v hd rx
  rcases hds with ⟨he, se⟩ | ⟨he, se⟩
  · exact op_inD hu pins s σ H x y v u Q I rx ry ⟨d, ds, hd, he, sd, se, q⟩
  · obtain ⟨bs, r2⟩ := Dp.reads I (.tuple ds) y u he ry
    exact SeqAt.in_tuple_reads r2 r1 (SeqAt.canLay_of_shaped se) (SeqAt.canLay_of_shaped sd) (room_in_shaped sd hu) ⟨.bl _, H, I, rfl, q⟩
theorem opr_notIn (hu : X.A.units + 65 < cLine) : OpR X (compareOp .NotIn) (rInT X.K true) := by
  intro pins s σ H x y v u Q I rx ry h
  obtain ⟨d, ds, hd, hds, sd, q⟩ := h
  obtain ⟨as, r1⟩ := Dp.reads I d x v hd rx
  rcases hds with ⟨he, se⟩ | ⟨he, se⟩
  · exact op_notInD hu pins s σ H x y v u Q I rx ry ⟨d, ds, hd, he, sd, se, q⟩
  · obtain ⟨bs, r2⟩ := Dp.reads I (.tuple ds) y u he ry
    exact SeqAt.notIn_tuple_reads r2 r1 (SeqAt.canLay_of_shaped se) (SeqAt.canLay_of_shaped sd) (room_in_shaped sd hu) ⟨.bl _, H, I, rfl, q⟩
theorem in_ask {H0 : Hp} {neg : Bool} {av θ : List Addr} {sd : Sl} {μ : Mem} {σ : L2.St} {H : Hp} {dx dy : D} {x y : V} {d : D} {Q : VK} (R : RS X.K X.mg H0 av θ sd μ σ H) (rx : rep X.K X.mg H0 av θ H dx x) (ry : rep X.K X.mg H0 av θ H dy y) (hg : gInD neg μ dx dy = some d)
    (q : Asks X H0 av θ sd μ σ H d Q) : rInT X.K neg x y H Q := by
  unfold gInD at hg
  cases h1 : toPm μ dx with
  | none => rw [h1] at hg; cases hg
  | some p =>
    cases h2 : toPm μ dy with
    | none => rw [h1, h2] at hg; cases hg
    | some p' =>
      rw [h1, h2] at hg
      simp only [Option.bind_some] at hg
      split at hg
      · split at hg
        · rename_i hs
          cases hg
          rw [Bool.and_eq_true] at hs
          exact ⟨p, _, toPm_ok R rx h1, .inl ⟨toPm_ok R ry h2, hs.2⟩, hs.1, q.same R rfl (fun _ e => by cases e)⟩
        · cases hg
      · split at hg
        · rename_i hs
          cases hg
          rw [Bool.and_eq_true] at hs
          exact ⟨p, _, toPm_ok R rx h1, .inr ⟨toPm_ok R ry h2, hs.2⟩, hs.1, q.same R rfl (fun _ e => by cases e)⟩
        · cases hg
      · cases hg
theorem od_in (hu : X.A.units + 65 < cLine) : OpD X (compareOp .In) (gInD false) := fun H0 => ⟨_, opr_in hu, fun _ _ _ _ _ _ _ _ _ _ _ _ R rx ry hg q => in_ask R rx ry hg q⟩
theorem od_notIn (hu : X.A.units + 65 < cLine) : OpD X (compareOp .NotIn) (gInD true) := fun H0 => ⟨_, opr_notIn hu, fun _ _ _ _ _ _ _ _ _ _ _ _ R rx ry hg q => in_ask R rx ry hg q⟩
end
end DL
set_option Elab.async false
set_option linter.all false
set_option maxRecDepth 100000
/-! DL, part h: tuple times number; sequences. -/
namespace DL
open PySem PySem.Spec PyProof.Rows L2

/-! ### t * k, k at most 1 -/
theorem tmul_none (l : Addr) (xs : Array Value) (n : Nat) (dd : Option Addr) (sl : Array (Option Value)) (k : Int) (u : Tok) (a0 : (decide (k < -(2 ^ 63)) || decide (k ≥ 2 ^ 63)) = false) (a1 : (xs.isEmpty || k == 1) = false) (a2 : (decide (k ≤ 0) || xs.isEmpty) = true) :
    Meets (Builtin.«tuple.__mul__» ⟨[.ref l, .int k u], []⟩) (fun _ R s => s.heap.get? l = some { cls := .type "tuple", dict := dd, data := .seq xs n, slots := sl } ∧
      R (.ok (.ret (Value.ref s.heap.objs.size))) { s with heap := s.heap.push { cls := Value.type "tuple", data := Data.seq #[] }, toks := s.toks }) :=
  .of_wp fun prog w A R s z => by
    obtain ⟨hp, g, d, tk, os⟩ := s
    obtain ⟨hl, z⟩ := z
    have f1 := AutoSeq1.idx_int
    wp_walk using wpAny_loadPart' hl
    repeat (first
      | (refine wpAny_ite_false (decide_eq_false (by rw [a0]; exact Bool.false_ne_true)) ?_; wp_walk using wpAny_loadPart' hl)
      | (refine wpAny_ite_false (decide_eq_false (by rw [a1]; exact Bool.false_ne_true)) ?_; wp_walk using wpAny_loadPart' hl)
      | (refine wpAny_ite_true (decide_eq_true a2) ?_; wp_walk using wpAny_loadPart' hl))
    exact ⟨_, rfl, z⟩
theorem tmul_one (l : Addr) (xs : Array Value) (n : Nat) (dd : Option Addr) (sl : Array (Option Value)) (k : Int) (u : Tok) (a0 : (decide (k < -(2 ^ 63)) || decide (k ≥ 2 ^ 63)) = false) (a1 : (xs.isEmpty || k == 1) = true) :
    Meets (Builtin.«tuple.__mul__» ⟨[.ref l, .int k u], []⟩) (fun _ R s => s.heap.get? l = some { cls := .type "tuple", dict := dd, data := .seq xs n, slots := sl } ∧ R (.ok (.ret (Value.ref l))) s) :=
  .of_wp fun prog w A R s z => by
    obtain ⟨hp, g, d, tk, os⟩ := s
    obtain ⟨hl, z⟩ := z
    have f1 := AutoSeq1.idx_int
    wp_walk using wpAny_loadPart' hl
    repeat (first
      | (refine wpAny_ite_false (decide_eq_false (by rw [a0]; exact Bool.false_ne_true)) ?_; wp_walk using wpAny_loadPart' hl)
      | (refine wpAny_ite_true (decide_eq_true a1) ?_; wp_walk using wpAny_loadPart' hl))
    exact ⟨_, rfl, z⟩
section
variable {X : Cx}
def rTm (K : PySem.W.Frag) : R2 := fun x y H Q => ∃ l k xs, x = .ref l ∧ y = .int k ∧ SqT K H l xs ∧ (-(2 ^ 63) ≤ k ∧ k < 2 ^ 63) ∧
  ((xs = [] ∨ k = 1) ∧ Q (.ref l) H ∨ (xs ≠ [] ∧ k ≤ 0 ∧ ∀ p, H p = none → Q (.ref p) (upd H p (.tup []))) ∨
    (xs ≠ [] ∧ 2 ≤ k ∧ k ≤ 1000 ∧ xs.length ≤ 1000 ∧ ∀ p, H p = none → Q (.ref p) (upd H p (.tup (List.replicate k.toNat xs).flatten))))
theorem opr_tm : OpR X (binaryOp .Mult) (rTm X.K) := by
  intro pins s σ H x y v u Q I rx ry h
  obtain ⟨l, k, xs, rfl, rfl, hT, hk, h⟩ := h
  have ca : (decide (k < -(2 ^ 63)) || decide (k ≥ 2 ^ 63)) = false := by
    rw [decide_eq_false (by omega), decide_eq_false (by omega)]; rfl
  rcases h with ⟨h1, q⟩ | ⟨hne, h0, q⟩ | ⟨hne, h2, h3, hz, q⟩
  · cases rx
    obtain ⟨t, rfl⟩ := ry
    obtain ⟨ws, r, ⟨⟨cl, dd, da, sl⟩, ho, hc, n, hd⟩, hs⟩ := I.tuple hT
    simp only at hc hd
    subst hc hd
    have cb : (ws.toArray.isEmpty || k == 1) = true := by
      rcases h1 with h1 | h1
      · subst h1; cases r; rfl
      · subst h1; simp
    exact wpAny_binaryOp_repeat_ref (T := "tuple") (U := "int") (by decide) ⟨_, ho, rfl⟩ (fun s1 => typeIs_int s1 k t) noFill_tuple_mul F.fills_int_mul F.slot_int_rmul repeat_tuple F.slot_int_index.lookup
      (call_meets F.slot_int_rmul (typeIs_int s k t) F.entry_int_rmul (F.args_int_rmul_2 _ _) (int_rmul_tuple k t l ws.toArray n dd sl)
        ⟨ho, rfl, ⟨_, ho, rfl⟩, call_meets F.slot_tuple_mul ⟨_, ho, rfl⟩ F.entry_tuple_mul (F.args_tuple_mul_2 _ _) (tmul_one l ws.toArray n dd sl k t ca cb) ⟨ho, ⟨.ref l, H, I, rfl, q⟩⟩⟩)
  · cases rx
    obtain ⟨t, rfl⟩ := ry
    obtain ⟨ws, r, ⟨⟨cl, dd, da, sl⟩, ho, hc, n, hd⟩, hs⟩ := I.tuple hT
    simp only at hc hd
    subst hc hd
    have hi : ws.toArray.isEmpty = false := by
      cases r with
      | nil => exact absurd rfl hne
      | cons _ _ => rfl
    have cb : (ws.toArray.isEmpty || k == 1) = false := by
      rw [hi, Bool.false_or]; exact beq_eq_false_iff_ne.mpr (by omega)
    have cc : (decide (k ≤ 0) || ws.toArray.isEmpty) = true := by
      rw [decide_eq_true h0]; rfl
    refine wpAny_binaryOp_repeat_ref (T := "tuple") (U := "int") (by decide) ⟨_, ho, rfl⟩ (fun s1 => typeIs_int s1 k t) noFill_tuple_mul F.fills_int_mul F.slot_int_rmul repeat_tuple F.slot_int_index.lookup
      (call_meets F.slot_int_rmul (typeIs_int s k t) F.entry_int_rmul (F.args_int_rmul_2 _ _) (int_rmul_tuple k t l ws.toArray n dd sl)
        ⟨ho, rfl, ⟨_, ho, rfl⟩, call_meets F.slot_tuple_mul ⟨_, ho, rfl⟩ F.entry_tuple_mul (F.args_tuple_mul_2 _ _) (tmul_none l ws.toArray n dd sl k t ca cb cc) ⟨ho, ?_⟩⟩)
    refine ⟨.ref s.heap.objs.size, _, I.laid (t' := s.toks) (o := .tup []) (fun b ob z => Heap.get?_push_of_some _ z) (Nat.le_refl _) ?_, rfl, q _ (I.hok.fresh (Nat.le_refl _))⟩
    exact ⟨Nat.zero_le _, [], .nil, IsTup.new _ _⟩
  · exact op_repT pins s σ H _ _ v u Q I rx ry ⟨l, k, xs, rfl, rfl, hT, hne, h2, h3, hz, q⟩
/-- t * k -/
noncomputable def gMulT : Mem → D → D → Option D := fun _ x y => match x, y with
  | .tup ds, .int k => when_ (k ≤ 1000 ∧ ds.length ≤ 1000 ∧ -(2 ^ 63) ≤ k) (some (.tup (List.replicate k.toNat ds).flatten))
  | _, _ => none
theorem repL.app {K : PySem.W.Frag} {mg : Mg} {H0 : Hp} {av θ : List Addr} {H : Hp} : ∀ {ds es : List D} {xs ys : List V}, repL K mg H0 av θ H ds xs → repL K mg H0 av θ H es ys → repL K mg H0 av θ H (ds ++ es) (xs ++ ys)
  | [], es, xs, ys, h, h2 => by
    have h : xs = [] := h
    subst h
    exact h2
  | d :: ds, es, _, ys, ⟨x, r, e, h, t⟩, h2 => by
    subst e
    exact ⟨x, r ++ ys, rfl, h, repL.app t h2⟩
theorem repL.rept {K : PySem.W.Frag} {mg : Mg} {H0 : Hp} {av θ : List Addr} {H : Hp} {ds : List D} {xs : List V} (h : repL K mg H0 av θ H ds xs) : ∀ n : Nat, repL K mg H0 av θ H (List.replicate n ds).flatten (List.replicate n xs).flatten
  | 0 => rfl
  | n + 1 => by
    rw [List.replicate_succ, List.flatten_cons, List.replicate_succ, List.flatten_cons]
    exact repL.app h (repL.rept h n)
theorem repL.nil_iff {K : PySem.W.Frag} {mg : Mg} {H0 : Hp} {av θ : List Addr} {H : Hp} {ds : List D} {xs : List V} (h : repL K mg H0 av θ H ds xs) : xs = [] ↔ ds = [] := by
  have := repL.length h
  constructor
  · intro e; subst e; exact List.eq_nil_of_length_eq_zero this.symm
  · intro e; subst e; exact List.eq_nil_of_length_eq_zero this
theorem rep_nl (ds : List D) : ∀ es, D.tup ds ≠ D.new es := fun _ e => by cases e
theorem od_mulT : OpD X (binaryOp .Mult) gMulT := fun H0 => ⟨_, opr_tm, fun av θ sd μ σ H dx dy x y d Q R rx ry hg q => by
  cases dx with
  | tup ds =>
    cases dy with
    | int k =>
      · obtain ⟨c, hg⟩ := when_some (show when_ _ _ = some d from hg)
        cases hg
        obtain ⟨a, xs, rfl, t, r⟩ := rx
        have hl := repL.length r
        refine ⟨a, k, xs, rfl, ry, t.sq, ⟨c.2.2, by omega⟩, ?_⟩
        by_cases hx : xs = []
        · refine .inl ⟨.inl hx, q.same R ⟨a, xs, rfl, t, ?_⟩ (rep_nl _)⟩
          have hd := (repL.nil_iff r).mp hx
          subst hd
          rw [show (List.replicate k.toNat ([] : List D)).flatten = [] by simp]
          exact r
        · by_cases h1 : k = 1
          · refine .inl ⟨.inr h1, q.same R ⟨a, xs, rfl, t, ?_⟩ (rep_nl _)⟩
            subst h1
            rw [show (List.replicate (1 : Int).toNat ds).flatten = ds by simp]
            exact r
          · by_cases h0 : k ≤ 0
            · refine .inr (.inl ⟨hx, h0, fun p hp => ?_⟩)
              refine Asks.tup q R (xs := []) ?_ hp
              rw [show k.toNat = 0 by omega]
              exact rfl
            · refine .inr (.inr ⟨hx, by omega, c.1, by omega, fun p hp => Asks.tup q R (repL.rept r _) hp⟩)
    | _ => cases hg
  | _ => cases hg⟩

/-! ### sequences -/
/-- a list in any hands -/
def lsAny (μ : Mem) : D → Option (List D)
  | .lck ds => some ds
  | d => isLst μ d
variable {H0 : Hp} {av θ : List Addr} {sd : Sl} {μ : Mem} {σ : L2.St} {H : Hp}
theorem lsAny_at {d : D} {v : V} {ds : List D} (R : RS X.K X.mg H0 av θ sd μ σ H) (r : rep X.K X.mg H0 av θ H d v) (h : lsAny μ d = some ds) : ∃ a xs, v = .ref a ∧ SqL X.K H a xs ∧ repL X.K X.mg H0 av θ H ds xs := by
  by_cases q : ∃ es, d = .lck es
  · obtain ⟨es, rfl⟩ := q
    cases h
    obtain ⟨a, xs, e, t, r⟩ := r
    exact ⟨a, xs, e, SqL.exh R.ex t, r⟩
  · have h : isLst μ d = some ds := by
      cases d <;> first | exact h | exact absurd ⟨_, rfl⟩ q
    obtain ⟨a, xs, e, t, r⟩ := lst_at R r h
    exact ⟨a, xs, e, .inl (.inl t), r⟩
theorem repL.get {K : PySem.W.Frag} {mg : Mg} : ∀ {ds : List D} {xs : List V} {i : Nat} {d : D}, repL K mg H0 av θ H ds xs → ds[i]? = some d → ∃ v, xs[i]? = some v ∧ rep K mg H0 av θ H d v
  | [], _, _, _, _, h => by simp at h
  | d0 :: ds, _, 0, d, ⟨x, r, e, rx, rt⟩, h => by
    simp at h
    subst h
    subst e
    exact ⟨x, rfl, rx⟩
  | d0 :: ds, _, i + 1, d, ⟨x, r, e, rx, rt⟩, h => by
    subst e
    obtain ⟨v, a, b⟩ := repL.get rt (by simpa using h)
    exact ⟨v, by simpa using a, b⟩
theorem repL.atI {K : PySem.W.Frag} {mg : Mg} {ds : List D} {xs : List V} {i : Int} {d : D} (r : repL K mg H0 av θ H ds xs) (h : L2.atI ds i = some d) : ∃ v, L2.atI xs i = some v ∧ rep K mg H0 av θ H d v := by
  unfold L2.atI at h ⊢
  rw [repL.length r]
  cases q : ixN ds.length i with
  | none => rw [q] at h; cases h
  | some j => rw [q] at h; exact repL.get r h
/-- an item is never a list just made -/
def itemD (o : Option D) : Option D := match o with
  | some (.new _) => none
  | o => o
theorem itemD_some {o : Option D} {d : D} (h : itemD o = some d) : o = some d ∧ ∀ ds, d ≠ .new ds := by
  cases o with
  | none => cases h
  | some e => cases e <;> first | (cases h; exact ⟨rfl, fun _ e => by cases e⟩) | cases h
def gIxL : Mem → D → D → Option D := fun μ x y => match y with
  | .int i => (lsAny μ x).bind fun ds => itemD (L2.atI ds i)
  | _ => none
def gIxT : Mem → D → D → Option D := fun _ x y => match x, y with
  | .tup ds, .int i => itemD (L2.atI ds i)
  | _, _ => none
def gIxS : Mem → D → D → Option D := fun _ x y => match x, y with
  | .str z, .int i => if z.length ≤ sizeLine then (L2.atI z.cps.toList i).map fun c => .str ⟨#[c]⟩ else none
  | _, _ => none
theorem xd_list : IxD X gIxL := fun H0 => ⟨_, ix_list, fun av θ sd μ σ H dx dy x y d Q R rx ry hg q => by
  cases dy with
  | int i =>
    have hg : ((lsAny μ dx).bind fun ds => itemD (L2.atI ds i)) = some d := hg
    cases h : lsAny μ dx with
    | none => rw [h] at hg; cases hg
    | some ds =>
      rw [h] at hg
      obtain ⟨h1, hn⟩ := itemD_some hg
      obtain ⟨a, xs, e, t, r⟩ := lsAny_at R rx h
      obtain ⟨v, hv, rv⟩ := repL.atI r h1
      exact ⟨a, xs, i, v, e, ry, t, hv, q.same R rv hn⟩
  | _ => cases hg⟩
theorem xd_tup : IxD X gIxT := fun H0 => ⟨_, ix_tup, fun av θ sd μ σ H dx dy x y d Q R rx ry hg q => by
  cases dx with
  | tup ds =>
    cases dy with
    | int i =>
      obtain ⟨h1, hn⟩ := itemD_some (show itemD (L2.atI ds i) = some d from hg)
      obtain ⟨a, xs, e, t, r⟩ := rx
      obtain ⟨v, hv, rv⟩ := repL.atI r h1
      exact ⟨a, xs, i, v, e, ry, t.sq, hv, q.same R rv hn⟩
    | _ => cases hg
  | _ => cases hg⟩
theorem xd_str : IxD X gIxS := fun H0 => ⟨_, ix_str, fun av θ sd μ σ H dx dy x y d Q R rx ry hg q => by
  cases dx with
  | str z =>
    cases dy with
    | int i =>
      have hg : (if z.length ≤ sizeLine then (L2.atI z.cps.toList i).map fun c => D.str ⟨#[c]⟩ else none) = some d := hg
      split at hg
      · rename_i hz
        cases h : L2.atI z.cps.toList i with
        | none => rw [h] at hg; cases hg
        | some c =>
          rw [h] at hg
          cases hg
          exact ⟨z, i, c, rx, ry, hz, h, q.same R rfl (fun _ e => by cases e)⟩
      · cases hg
    | _ => cases hg
  | _ => cases hg⟩
theorem IxR.or' {r r' : R2} (h : IxR X r) (h' : IxR X r') : IxR X (fun x y H Q => r x y H Q ∨ r' x y H Q) := by
  intro value slice pins s σ H x y v u Q I rx ry hh hs
  rcases hh with hh | hh
  · exact h value slice pins s σ H x y v u Q I rx ry hh hs
  · exact h' value slice pins s σ H x y v u Q I rx ry hh hs
theorem IxD.or {g g' : Mem → D → D → Option D} (h : IxD X g) (h' : IxD X g') : IxD X (fun μ x y => (g μ x y).or (g' μ x y)) := fun H0 => by
  obtain ⟨r, hr, k⟩ := h H0
  obtain ⟨r', hr', k'⟩ := h' H0
  refine ⟨_, IxR.or' hr hr', fun av θ sd μ σ H dx dy x y d Q R rx ry e q => ?_⟩
  have e : (g μ dx dy).or (g' μ dx dy) = some d := e
  cases z : g μ dx dy with
  | some u =>
    rw [z] at e
    obtain rfl : u = d := Option.some.inj e
    exact .inl (k av θ sd μ σ H dx dy x y u Q R rx ry z q)
  | none =>
    rw [z] at e
    exact .inr (k' av θ sd μ σ H dx dy x y d Q R rx ry e q)
/-- x[i] of a list, a tuple, a text -/
def gIx : Mem → D → D → Option D := fun μ x y => (gIxT μ x y).or ((gIxL μ x y).or (gIxS μ x y))
theorem xd_ix : IxD X gIx := xd_tup.or (xd_list.or xd_str)
end
end DL
set_option Elab.async false
set_option linter.all false
set_option maxRecDepth 100000
/-! DL, part i: slices, sums of sequences, built-ins, what is walked. -/
namespace DL
open PySem PySem.Spec PyProof.Rows L2
section
variable {X : Cx} {K : PySem.W.Frag} {mg : Mg} {H0 : Hp} {W : WX} {av θ : List Addr} {sd : Sl} {μ : Mem} {σ : L2.St} {H : Hp}
/-! ### t + u, xs + ys, s + t -/
def gAddT : Mem → D → D → Option D := fun _ x y => match x, y with
  | .tup ds, .tup es => if ds.length + es.length ≤ sizeLine then some (.tup (ds ++ es)) else none
  | _, _ => none
theorem od_addT : OpD X (binaryOp .Add) gAddT := fun H0 => ⟨_, op_catA, fun av θ sd μ σ H dx dy x y d Q R rx ry hg q => by
  cases dx with
  | tup ds =>
    cases dy with
    | tup es =>
      have hg : (if ds.length + es.length ≤ sizeLine then some (D.tup (ds ++ es)) else none) = some d := hg
      split at hg
      · rename_i hz
        cases hg
        obtain ⟨a, xs, rfl, t, r⟩ := rx
        obtain ⟨b, ys, rfl, u, s⟩ := ry
        refine ⟨a, b, xs, ys, rfl, rfl, t.sq, u.sq, by rw [repL.length r, repL.length s]; exact hz, fun e => ?_, fun _ e => ?_, fun _ _ p hp => Asks.tup q R (repL.app r s) hp⟩
        · have hd := (repL.nil_iff r).mp e
          subst hd
          exact q.same R ⟨b, ys, rfl, u, s⟩ (rep_nl _)
        · have hd := (repL.nil_iff s).mp e
          subst hd
          exact q.same R ⟨a, xs, rfl, t, by rw [List.append_nil]; exact r⟩ (rep_nl _)
      · cases hg
    | _ => cases hg
  | _ => cases hg⟩
def gAddL : Mem → D → D → Option D := fun μ x y => (isLst μ x).bind fun ds => (isLst μ y).bind fun es => if ds.length + es.length ≤ sizeLine then some (.new (ds ++ es)) else none
theorem od_addL : OpD X (binaryOp .Add) gAddL := fun H0 => ⟨_, op_cat, fun av θ sd μ σ H dx dy x y d Q R rx ry hg q => by
  unfold gAddL at hg
  cases h1 : isLst μ dx with
  | none => rw [h1] at hg; cases hg
  | some ds =>
    cases h2 : isLst μ dy with
    | none => rw [h1, h2] at hg; cases hg
    | some es =>
      rw [h1, h2] at hg
      simp only [Option.bind_some] at hg
      split at hg
      · rename_i hz
        cases hg
        obtain ⟨a, xs, e1, t, r⟩ := lst_at R rx h1
        obtain ⟨b, ys, e2, u, s⟩ := lst_at R ry h2
        exact ⟨a, b, xs, ys, e1, e2, t, u, by rw [repL.length r, repL.length s]; exact hz, fun p hp => Asks.lst q R (repL.app r s) hp⟩
      · cases hg⟩
def gAddS : Mem → D → D → Option D := fun _ x y => match x, y with
  | .str a, .str b => if a.length + b.length ≤ sizeLine then some (.str (a ++ b)) else none
  | _, _ => none
theorem od_addS : OpD X (binaryOp .Add) gAddS := fun H0 => ⟨_, op_add_str, fun av θ sd μ σ H dx dy x y d Q R rx ry hg q => by
  cases dx with
  | str a =>
    cases dy with
    | str b =>
      have hg : (if a.length + b.length ≤ sizeLine then some (D.str (a ++ b)) else none) = some d := hg
      split at hg
      · rename_i hz
        cases hg
        exact ⟨a, b, rx, ry, hz, q.same R rfl (fun _ e => by cases e)⟩
      · cases hg
    | _ => cases hg
  | _ => cases hg⟩
/-- + -/
def gAdd : Mem → D → D → Option D := fun μ x y => (gAddI μ x y).or ((gAddT μ x y).or ((gAddL μ x y).or (gAddS μ x y)))
theorem od_add : OpD X (binaryOp .Add) gAdd := od_addI.or (od_addT.or (od_addL.or od_addS))
/-- xs * k -/
noncomputable def gMulL : Mem → D → D → Option D := fun μ x y => match y with
  | .int k => (isLst μ x).bind fun ds => when_ (-(2 ^ 63) ≤ k ∧ k < 2 ^ 63 ∧ ds.length * k.toNat ≤ sizeLine) (some (.new (List.replicate k.toNat ds).flatten))
  | _ => none
theorem od_mulL : OpD X (binaryOp .Mult) gMulL := fun H0 => ⟨_, op_rep, fun av θ sd μ σ H dx dy x y d Q R rx ry hg q => by
  cases dy with
  | int k =>
    have hg : ((isLst μ dx).bind fun ds => when_ (-(2 ^ 63) ≤ k ∧ k < 2 ^ 63 ∧ ds.length * k.toNat ≤ sizeLine) (some (D.new (List.replicate k.toNat ds).flatten))) = some d := hg
    cases h1 : isLst μ dx with
    | none => rw [h1] at hg; cases hg
    | some ds =>
      rw [h1] at hg
      simp only [Option.bind_some] at hg
      · obtain ⟨hz, hg⟩ := when_some hg
        cases hg
        obtain ⟨a, xs, e1, t, r⟩ := lst_at R rx h1
        exact ⟨a, k, xs, e1, ry, t, hz.1, hz.2.1, by rw [repL.length r]; exact hz.2.2, fun p hp => Asks.lst q R (repL.rept r _) hp⟩
  | _ => cases hg⟩
noncomputable def gMul : Mem → D → D → Option D := fun μ x y => (gMulI μ x y).or ((gMulT μ x y).or (gMulL μ x y))
theorem od_mul : OpD X (binaryOp .Mult) gMul := od_mulI.or (od_mulT.or od_mulL)

/-! ### slices -/
def cutD (ds : List D) (lo hi : Option Int) : List D := (ds.drop (HT.sIx ds.length 0 lo)).take (HT.sIx ds.length ds.length hi - HT.sIx ds.length 0 lo)
theorem repL.drop : ∀ (n : Nat) {ds : List D} {xs : List V}, repL K mg H0 av θ H ds xs → repL K mg H0 av θ H (ds.drop n) (xs.drop n)
  | 0, _, _, h => h
  | n + 1, [], xs, h => by
    have h : xs = [] := h
    subst h
    exact rfl
  | n + 1, d :: ds, _, ⟨x, r, e, _, t⟩ => by subst e; exact repL.drop n t
theorem repL.take' : ∀ (n : Nat) {ds : List D} {xs : List V}, repL K mg H0 av θ H ds xs → repL K mg H0 av θ H (ds.take n) (xs.take n)
  | 0, _, _, h => rfl
  | n + 1, [], xs, h => by
    have h : xs = [] := h
    subst h
    exact rfl
  | n + 1, d :: ds, _, ⟨x, r, e, h, t⟩ => by subst e; exact ⟨x, r.take n, rfl, h, repL.take' n t⟩
theorem repL.cut {ds : List D} {xs : List V} (h : repL K mg H0 av θ H ds xs) (lo hi : Option Int) : repL K mg H0 av θ H (cutD ds lo hi) (cutV xs lo hi) := by
  unfold cutD cutV
  rw [repL.length h]
  exact repL.take' _ (repL.drop _ h)
def gSlT : Mem → D → Option Int → Option Int → Option D := fun _ x lo hi => match x with
  | .tup ds => some (.tup (cutD ds lo hi))
  | _ => none
def gSlL : Mem → D → Option Int → Option Int → Option D := fun μ x lo hi => (lsAny μ x).map fun ds => .new (cutD ds lo hi)
def gSlS : Mem → D → Option Int → Option Int → Option D := fun _ x lo hi => match x with
  | .str z => if z.length ≤ sizeLine then some (.str (cutS z lo hi)) else none
  | _ => none
theorem cutD_whole {ds : List D} {lo hi : Option Int} (h : HT.sIx ds.length 0 lo = 0 ∧ HT.sIx ds.length ds.length hi = ds.length) : cutD ds lo hi = ds := by
  unfold cutD
  rw [h.1, h.2]
  simp
theorem sd_tup : SlD X gSlT := fun H0 => ⟨_, sl_tupA, fun av θ sd μ σ H dx x lo hi d Q R rx hg q => by
  cases dx with
  | tup ds =>
    cases hg
    obtain ⟨a, xs, rfl, t, r⟩ := rx
    refine ⟨a, xs, rfl, t.sq, fun h => ?_, fun _ p hp => Asks.tup q R (r.cut lo hi) hp⟩
    rw [repL.length r] at h
    rw [cutD_whole h] at q
    exact q.same R ⟨a, xs, rfl, t, r⟩ (rep_nl _)
  | _ => cases hg⟩
theorem sd_list : SlD X gSlL := fun H0 => ⟨_, sl_list, fun av θ sd μ σ H dx x lo hi d Q R rx hg q => by
  unfold gSlL at hg
  cases h1 : lsAny μ dx with
  | none => rw [h1] at hg; cases hg
  | some ds =>
    rw [h1] at hg
    cases hg
    obtain ⟨a, xs, e, t, r⟩ := lsAny_at R rx h1
    exact ⟨a, xs, e, t, fun p hp => Asks.lst q R (r.cut lo hi) hp⟩⟩
theorem sd_str : SlD X gSlS := fun H0 => ⟨_, sl_str, fun av θ sd μ σ H dx x lo hi d Q R rx hg q => by
  cases dx with
  | str z =>
    have hg : (if z.length ≤ sizeLine then some (D.str (cutS z lo hi)) else none) = some d := hg
    split at hg
    · rename_i hz
      cases hg
      exact ⟨z, rx, hz, q.same R rfl (fun _ e => by cases e)⟩
    · cases hg
  | _ => cases hg⟩
theorem SlD.or {g g' : Mem → D → Option Int → Option Int → Option D} (h : SlD X g) (h' : SlD X g') : SlD X (fun μ x l u => (g μ x l u).or (g' μ x l u)) := fun H0 => by
  obtain ⟨r, hr, k⟩ := h H0
  obtain ⟨r', hr', k'⟩ := h' H0
  refine ⟨_, SlR.or hr hr', fun av θ sd μ σ H dx x lo hi d Q R rx e q => ?_⟩
  have e : (g μ dx lo hi).or (g' μ dx lo hi) = some d := e
  cases z : g μ dx lo hi with
  | some u =>
    rw [z] at e
    obtain rfl : u = d := Option.some.inj e
    exact .inl (k av θ sd μ σ H dx x lo hi u Q R rx z q)
  | none =>
    rw [z] at e
    exact .inr (k' av θ sd μ σ H dx x lo hi d Q R rx e q)
def gSl : Mem → D → Option Int → Option Int → Option D := fun μ x l u => (gSlT μ x l u).or ((gSlL μ x l u).or (gSlS μ x l u))
theorem sd_sl : SlD X gSl := sd_tup.or (sd_list.or sd_str)

/-! ### built-ins -/
def c1 (g : Mem → D → Option D) : Mem → List D → Option D := fun μ xs => match xs with
  | [d] => g μ d
  | _ => none
def c2 (g : Mem → D → D → Option D) : Mem → List D → Option D := fun μ xs => match xs with
  | [d, e] => g μ d e
  | _ => none
theorem cd1 {f : Value} {g : Mem → D → Option D} {r : List V → Hp → VK → Prop} (hr : CallR X f r) (k : ∀ (H0 : Hp) (av θ : List Addr) (sd : Sl) (μ : Mem) (σ : L2.St) (H : Hp) (dx : D) (x : V) (d : D) (Q : VK), RS X.K X.mg H0 av θ sd μ σ H → rep X.K X.mg H0 av θ H dx x → g μ dx = some d →
    Asks X H0 av θ sd μ σ H d Q → r [x] H Q) : CallD X f (c1 g) := fun H0 => ⟨r, hr, fun av θ sd μ σ H ds xs d Q R rx hg q => by
  match ds, rx with
  | [], _ => cases hg
  | _ :: _ :: _, _ => cases hg
  | [y], ⟨x, rr, e, hx, hr⟩ =>
    have hr : rr = [] := hr
    subst hr
    subst e
    exact k H0 av θ sd μ σ H y x d Q R hx hg q⟩
theorem cd2 {f : Value} {g : Mem → D → D → Option D} {r : List V → Hp → VK → Prop} (hr : CallR X f r) (k : ∀ (H0 : Hp) (av θ : List Addr) (sd : Sl) (μ : Mem) (σ : L2.St) (H : Hp) (dx dy : D) (x y : V) (d : D) (Q : VK), RS X.K X.mg H0 av θ sd μ σ H → rep X.K X.mg H0 av θ H dx x → rep X.K X.mg H0 av θ H dy y → g μ dx dy = some d →
    Asks X H0 av θ sd μ σ H d Q → r [x, y] H Q) : CallD X f (c2 g) := fun H0 => ⟨r, hr, fun av θ sd μ σ H ds xs d Q R rx hg q => by
  match ds, rx with
  | [], _ => cases hg
  | [_], _ => cases hg
  | _ :: _ :: _ :: _, _ => cases hg
  | [u, v], ⟨x, _, e, hx, y, rr, e2, hy, hr⟩ =>
    have hr : rr = [] := hr
    subst hr
    subst e2
    subst e
    exact k H0 av θ sd μ σ H u v x y d Q R hx hy hg q⟩
def g1Abs : Mem → D → Option D := fun _ x => match x with
  | .int i => some (.int (if i < 0 then -i else i))
  | _ => none
def gAbs := c1 g1Abs
theorem cd_abs : CallD X (.builtin "abs") gAbs := cd1 call_abs fun H0 av θ sd μ σ H dx x d Q R rx hg q => by
  cases dx with
  | int i => cases hg; have rx : x = .int i := rx; subst rx; exact ⟨i, rfl, q.same R rfl (fun _ e => by cases e)⟩
  | _ => cases hg
def g1Int : Mem → D → Option D := fun _ x => match x with
  | .int i => some (.int i)
  | .bl b => some (.int (if b then 1 else 0))
  | _ => none
def gInt := c1 g1Int
theorem cd_int : CallD X (.type "int") gInt := cd1 call_int1 fun H0 av θ sd μ σ H dx x d Q R rx hg q => by
  cases dx with
  | int i => cases hg; have rx : x = .int i := rx; subst rx; exact .inl ⟨i, rfl, q.same R rfl (fun _ e => by cases e)⟩
  | bl i => cases hg; have rx : x = .bl i := rx; subst rx; exact .inr ⟨i, rfl, q.same R rfl (fun _ e => by cases e)⟩
  | _ => cases hg
/-- the items of a list or tuple -/
def sqAny (μ : Mem) : D → Option (List D)
  | .tup ds => some ds
  | d => lsAny μ d
theorem sqAny_at {d : D} {v : V} {ds : List D} (R : RS X.K X.mg H0 av θ sd μ σ H) (r : rep X.K X.mg H0 av θ H d v) (h : sqAny μ d = some ds) : ∃ a xs, v = .ref a ∧ (SqL X.K H a xs ∨ SqT X.K H a xs) ∧ repL X.K X.mg H0 av θ H ds xs := by
  by_cases q : ∃ es, d = .tup es
  · obtain ⟨es, rfl⟩ := q
    cases h
    obtain ⟨a, xs, e, t, r⟩ := r
    exact ⟨a, xs, e, .inr t.sq, r⟩
  · have h : lsAny μ d = some ds := by
      cases d <;> first | exact h | exact absurd ⟨_, rfl⟩ q
    obtain ⟨a, xs, e, t, r⟩ := lsAny_at R r h
    exact ⟨a, xs, e, .inl t, r⟩
def g1Len : Mem → D → Option D := fun μ x => match x with
  | .str z => if z.length ≤ sizeLine then some (.int z.length) else none
  | d => (sqAny μ d).map fun ds => .int ds.length
def gLen := c1 g1Len
theorem cd_len : CallD X (.builtin "len") gLen := cd1 call_len fun H0 av θ sd μ σ H dx x d Q R rx hg q => by
  by_cases hs : ∃ z, dx = .str z
  · obtain ⟨z, rfl⟩ := hs
    have hg : (if z.length ≤ sizeLine then some (D.int z.length) else none) = some d := hg
    split at hg
    · rename_i hz
      cases hg
      have rx : x = .str z := rx
      subst rx
      exact ⟨_, z.length, rfl, ⟨hz, rfl⟩, q.same R rfl (fun _ e => by cases e)⟩
    · cases hg
  · have hg : ((sqAny μ dx).map fun ds => D.int ds.length) = some d := by
      cases dx <;> first | exact hg | exact absurd ⟨_, rfl⟩ hs
    cases h : sqAny μ dx with
    | none => rw [h] at hg; cases hg
    | some es =>
      rw [h] at hg
      cases hg
      obtain ⟨a, ys, rfl, t, r⟩ := sqAny_at R rx h
      exact ⟨_, es.length, rfl, t.elim (fun t => .inl ⟨ys, t, (repL.length r).symm⟩) (fun t => .inr ⟨ys, t, (repL.length r).symm⟩), q.same R rfl (fun _ e => by cases e)⟩
/-- ints, bools of a list -/
def intD : D → Option Int
  | .int i => some i
  | _ => none
def boolD : D → Option Bool
  | .bl i => some i
  | _ => none
def allD {α : Type} (f : D → Option α) : List D → Option (List α)
  | [] => some []
  | d :: ds => (f d).bind fun i => (allD f ds).map fun is => i :: is
theorem all_rep {α : Type} {f : D → Option α} {g : α → V} (hf : ∀ d v i, rep K mg H0 av θ H d v → f d = some i → v = g i) : ∀ {ds : List D} {xs : List V} {is : List α}, repL K mg H0 av θ H ds xs → allD f ds = some is → xs = is.map g
  | [], xs, is, r, h => by
    have r : xs = [] := r
    cases h
    exact r
  | d :: ds, xs, is, ⟨x, r, e, hx, hr⟩, h => by
    have h : ((f d).bind fun i => (allD f ds).map fun is => i :: is) = some is := h
    cases q0 : f d with
    | none => rw [q0] at h; cases h
    | some i =>
      rw [q0] at h
      cases q : allD f ds with
      | none => rw [q] at h; cases h
      | some js =>
        rw [q] at h
        cases h
        rw [e, hf d x i hx q0, all_rep hf hr q]
        rfl
theorem int_rep : ∀ d v i, rep K mg H0 av θ H d v → intD d = some i → v = V.int i := fun d v i r h => by
  cases d <;> cases h
  exact r
theorem bool_rep : ∀ d v i, rep K mg H0 av θ H d v → boolD d = some i → v = V.bl i := fun d v i r h => by
  cases d <;> cases h
  exact r
def gOver {α : Type} (f : D → Option α) (g : List α → D) : Mem → D → Option D := fun μ x => (lsAny μ x).bind fun ds => (allD f ds).map g
theorem over_at {α : Type} {f : D → Option α} {g : List α → D} {gv : α → V} (hf : ∀ d v i, rep X.K X.mg H0 av θ H d v → f d = some i → v = gv i) {dx d : D} {x : V} (R : RS X.K X.mg H0 av θ sd μ σ H) (rx : rep X.K X.mg H0 av θ H dx x) (hg : gOver f g μ dx = some d) :
    ∃ a is, x = .ref a ∧ SqL X.K H a (is.map gv) ∧ d = g is := by
  unfold gOver at hg
  cases h : lsAny μ dx with
  | none => rw [h] at hg; cases hg
  | some es =>
    rw [h] at hg
    have hg : (allD f es).map g = some d := hg
    cases h2 : allD f es with
    | none => rw [h2] at hg; cases hg
    | some is =>
      rw [h2] at hg
      cases hg
      obtain ⟨a, ys, rfl, t, r⟩ := lsAny_at R rx h
      rw [all_rep hf r h2] at t
      exact ⟨a, is, rfl, t, rfl⟩
def gSum := c1 (gOver intD fun is => .int is.sum)
theorem cd_sum (hc : X.calm = true) : CallD X (.builtin "sum") gSum := cd1 (cr_sum hc) fun H0 av θ sd μ σ H dx x d Q R rx hg q => by
  obtain ⟨a, is, rfl, t, rfl⟩ := over_at int_rep R rx hg
  exact ⟨a, is, rfl, t, q.same R rfl (fun _ e => by cases e)⟩
def gAll := c1 (gOver boolD fun is => .bl (is.all id))
def gAny := c1 (gOver boolD fun is => .bl (is.any id))
theorem cd_all (hc : X.calm = true) : CallD X (.builtin "all") gAll := cd1 (cr_all hc) fun H0 av θ sd μ σ H dx x d Q R rx hg q => by
  obtain ⟨a, is, rfl, t, rfl⟩ := over_at bool_rep R rx hg
  exact ⟨a, is, rfl, t, q.same R rfl (fun _ e => by cases e)⟩
theorem cd_any (hc : X.calm = true) : CallD X (.builtin "any") gAny := cd1 (cr_any hc) fun H0 av θ sd μ σ H dx x d Q R rx hg q => by
  obtain ⟨a, is, rfl, t, rfl⟩ := over_at bool_rep R rx hg
  exact ⟨a, is, rfl, t, q.same R rfl (fun _ e => by cases e)⟩
/-- tuple(x) -/
def g1Tuple : Mem → D → Option D := fun μ x => match x with
  | .tup ds => some (.tup ds)
  | d => (lsAny μ d).map fun ds => .tup ds
def gTuple := c1 g1Tuple
theorem cd_tuple : CallD X (.type "tuple") gTuple := cd1 call_tuple_of fun H0 av θ sd μ σ H dx x d Q R rx hg q => by
  by_cases hs : ∃ z, dx = .tup z
  · obtain ⟨z, rfl⟩ := hs
    cases hg
    obtain ⟨a, ys, rfl, t, r⟩ := rx
    exact ⟨a, ys, rfl, .inr ⟨t.sq, q.same R ⟨a, ys, rfl, t, r⟩ (rep_nl _)⟩⟩
  · have hg : ((lsAny μ dx).map fun ds => D.tup ds) = some d := by
      cases dx <;> first | exact hg | exact absurd ⟨_, rfl⟩ hs
    cases h : lsAny μ dx with
    | none => rw [h] at hg; cases hg
    | some es =>
      rw [h] at hg
      cases hg
      obtain ⟨a, ys, rfl, t, r⟩ := lsAny_at R rx h
      exact ⟨a, ys, rfl, .inl ⟨t, fun p hp => Asks.tup q R r hp⟩⟩
/-- list(x) -/
def g1List : Mem → D → Option D := fun μ d => (sqAny μ d).map fun ds => .new ds
def gList := c1 g1List
theorem cd_list : CallD X (.type "list") gList := cd1 call_list_of fun H0 av θ sd μ σ H dx x d Q R rx hg q => by
  have hg : ((sqAny μ dx).map fun ds => D.new ds) = some d := hg
  cases h : sqAny μ dx with
  | none => rw [h] at hg; cases hg
  | some es =>
    rw [h] at hg
    cases hg
    obtain ⟨a, ys, rfl, t, r⟩ := sqAny_at R rx h
    exact ⟨a, ys, rfl, t, fun p hp => Asks.lst q R r hp⟩
/-- max(i, j), min(i, j) -/
def gMax2 := c2 (gI0 fun i j => .int (if j > i then j else i))
def gMin2 := c2 (gI0 fun i j => .int (if j < i then j else i))
theorem gI0_some {g : Int → Int → D} {dx dy d : D} (h : gI0 g μ dx dy = some d) : ∃ i j, dx = .int i ∧ dy = .int j ∧ d = g i j := by
  cases dx with
  | int i =>
    cases dy with
    | int j => cases h; exact ⟨i, j, rfl, rfl, rfl⟩
    | _ => cases h
  | _ => cases h
theorem cd_max2 (hc : X.calm = true) : CallD X (.builtin "max") gMax2 := cd2 (call_max2 hc) fun H0 av θ sd μ σ H dx dy x y d Q R rx ry hg q => by
  obtain ⟨i, j, rfl, rfl, rfl⟩ := gI0_some hg
  have rx : x = .int i := rx
  have ry : y = .int j := ry
  subst rx; subst ry
  exact ⟨i, j, rfl, q.same R rfl (fun _ e => by cases e)⟩
theorem cd_min2 (hc : X.calm = true) : CallD X (.builtin "min") gMin2 := cd2 (call_min2 hc) fun H0 av θ sd μ σ H dx dy x y d Q R rx ry hg q => by
  obtain ⟨i, j, rfl, rfl, rfl⟩ := gI0_some hg
  have rx : x = .int i := rx
  have ry : y = .int j := ry
  subst rx; subst ry
  exact ⟨i, j, rfl, q.same R rfl (fun _ e => by cases e)⟩
/-- isinstance(x, T), T built-in -/
def tyName (μ : Mem) : D → Option String
  | .non => some "NoneType"
  | .bl _ => some "bool"
  | .int _ => some "int"
  | .str _ => some "str"
  | .tup _ => some "tuple"
  | d => (isLst μ d).map fun _ => "list"
theorem tyName_ok {d : D} {v : V} {T : String} (R : RS X.K X.mg H0 av θ sd μ σ H) (r : rep X.K X.mg H0 av θ H d v) (h : tyName μ d = some T) : TyX X.K H v (.type T) := by
  have lists : ∀ {d : D}, rep X.K X.mg H0 av θ H d v → ((isLst μ d).map fun _ => "list") = some T → TyX X.K H v (.type T) := fun {d} r h => by
    cases q : isLst μ d with
    | none => rw [q] at h; cases h
    | some ds =>
      rw [q] at h
      cases h
      obtain ⟨a, xs, rfl, t, _⟩ := lst_at R r q
      exact .base (.lst t)
  cases d with
  | non => cases h; cases r; exact .base .non
  | bl b => cases h; cases r; exact .base (.bl b)
  | int i => cases h; cases r; exact .base (.int i)
  | str s => cases h; cases r; exact .base (.str s)
  | tup ds =>
    cases h
    obtain ⟨a, xs, rfl, t, _⟩ := r
    rcases t with ⟨_, _, t | ⟨o, t⟩⟩ | ⟨o, its, n, ho, hc, _⟩
    · exact .base (.tup t)
    · exact .fTuple t
    · exact .kTuple ho hc
  | _ => exact lists r h
def g2Isi : Mem → D → D → Option D := fun μ d c => match c with
  | .ty T => (tyName μ d).bind fun t => (kitB t T).map fun b => .bl b
  | _ => none
def gIsi := c2 g2Isi
theorem cd_isi : CallD X (.builtin "isinstance") gIsi := cd2 call_isi fun H0 av θ sd μ σ H dx dy x y d Q R rx ry hg q => by
  cases dy with
  | ty T =>
    have ry : y = .ty T := ry
    subst ry
    have hg : ((tyName μ dx).bind fun t => (kitB t T).map fun b => D.bl b) = some d := hg
    cases h : tyName μ dx with
    | none => rw [h] at hg; cases hg
    | some t =>
      rw [h] at hg
      have hg : ((kitB t T).map fun b => D.bl b) = some d := hg
      cases h2 : kitB t T with
      | none => rw [h2] at hg; cases hg
      | some b =>
        rw [h2] at hg
        cases hg
        exact ⟨x, .ty T, .type t, .type T, b, rfl, .ty T, tyName_ok R rx h, kit_ty h2, q.same R rfl (fun _ e => by cases e)⟩
  | _ => cases hg
theorem pd_ty {x : Str} {T : String} {pos : Pos} (hg : Gl X x) (hm : X.mg x = none) (hv : bootBuiltins x = some (.type T)) (hn : x ≠ "__name__" := by decide) (hd : (x == ("__debug__" : Str)) = false := by decide) : PE X (.Name x pos) (tE X.K X.mg H0 W (eC (.ty T))) :=
  pd_c (pe_bltn (v := .ty T) hg hm hv rfl hn hd) (fun _ _ _ => rfl) (fun _ e => by cases e)
end
end DL
set_option Elab.async false
set_option linter.all false
set_option maxRecDepth 100000
/-! DL, part j: what is walked; stores by place; while. -/
namespace DL
open PySem PySem.Spec PyProof.Rows L2
section
variable {X : Cx} {K : PySem.W.Frag} {mg : Mg} {H0 : Hp} {W : WX} {av bv θ θ1 : List Addr} {sd : Sl} {μ : Mem} {σ : L2.St} {H H1 : Hp} {a b e : Expr} {f fa fb : EE} {ga : EA} {pos : Pos}
/-! ### iterators -/
theorem goes_later (g : Gr θ θ1 H H1) (hb : ∀ b ∈ bv, b ∈ av ∨ H b = none) : Goes av bv θ θ1 H H1 := fun a o n m h =>
  ⟨g.notin n h, fun q => (hb a q).elim m (fun z => by rw [h] at z; cases z), g.keep a o n h⟩
/-- whoever looks later still finds these items at a -/
def Later (K : PySem.W.Frag) (mg : Mg) (H0 : Hp) (av : List Addr) (S : PySem.W.Frag → Hp → Addr → List V → Prop) (a : Addr) (ds : List D) (chk : Mem → Prop) (θ : List Addr) (H : Hp) : Prop :=
  ∀ (bv θ1 : List Addr) (sd1 : Sl) (μ1 : Mem) (σ1 : L2.St) (H1 : Hp), Gr θ θ1 H H1 → (∀ b ∈ bv, b ∈ av ∨ H b = none) → RS K mg H0 bv θ1 sd1 μ1 σ1 H1 → chk μ1 → ∃ ys, S K H1 a ys ∧ repL K mg H0 bv θ1 H1 ds ys
/-- a list or tuple: its items, what has to stand -/
def srcD (μ : Mem) : D → Option (List D × (Mem → Prop))
  | .tup ds => some (ds, fun _ => True)
  | .ref n => match μ[n]? with
    | some (.lst ds) => some (ds, fun μ' => μ'[n]? = some (.lst ds))
    | _ => none
  | .lst ds => some (ds, fun _ => True)
  | .lck ds => some (ds, fun _ => True)
  | .fr ds => some (ds, fun _ => True)
  | .new ds => some (ds, fun _ => True)
  | _ => none
def isTupD : D → Bool
  | .tup _ => true
  | _ => false
theorem src_tup {d : D} {v : V} {ds : List D} {chk : Mem → Prop} (R : RS K mg H0 av θ sd μ σ H) (r : rep K mg H0 av θ H d v) (h : srcD μ d = some (ds, chk)) (ht : isTupD d = true) : chk μ ∧ ∃ a xs, v = .ref a ∧ SqT K H a xs ∧ Later K mg H0 av SqT a ds chk θ H := by
  cases d with
  | tup es =>
    cases h
    obtain ⟨a, xs, e, t, r⟩ := r
    exact ⟨trivial, a, xs, e, t.sq, fun bv θ1 sd1 μ1 σ1 H1 g hb R1 _ => ⟨xs, (t.tr (goes_later g hb)).sq, repL.tr (fun _ _ => g.get) (goes_later g hb) _ _ r⟩⟩
  | _ => cases ht
theorem src_lst {d : D} {v : V} {ds : List D} {chk : Mem → Prop} (R : RS K mg H0 av θ sd μ σ H) (r : rep K mg H0 av θ H d v) (h : srcD μ d = some (ds, chk)) (ht : isTupD d = false) :
    chk μ ∧ ∃ a xs, v = .ref a ∧ SqL K H a xs ∧ Later K mg H0 av SqL a ds chk θ H := by
  cases d with
  | tup es => cases ht
  | lst es =>
    cases h
    obtain ⟨a, xs, e, t, r⟩ := r
    exact ⟨trivial, a, xs, e, .inl (.inl (R.ex _ _ t)), fun bv θ1 sd1 μ1 σ1 H1 g hb R1 _ => ⟨xs, .inl (.inl (R1.ex _ _ t)), repL.tr (fun _ _ => g.get) (goes_later g hb) _ _ r⟩⟩
  | lck es =>
    cases h
    obtain ⟨a, xs, e, t, r⟩ := r
    exact ⟨trivial, a, xs, e, SqL.exh R.ex t, fun bv θ1 sd1 μ1 σ1 H1 g hb R1 _ => ⟨xs, SqL.exh R1.ex t, repL.tr (fun _ _ => g.get) (goes_later g hb) _ _ r⟩⟩
  | fr es =>
    cases h
    obtain ⟨a, xs, e, n, m, f, t, r⟩ := r
    exact ⟨trivial, a, xs, e, .inl (.inl t), fun bv θ1 sd1 μ1 σ1 H1 g hb R1 _ => ⟨xs, .inl (.inl (g.keep _ _ n t)), repL.tr (fun _ _ => g.get) (goes_later g hb) _ _ r⟩⟩
  | new es =>
    cases h
    obtain ⟨a, xs, e, n, m, f, t, r⟩ := r
    exact ⟨trivial, a, xs, e, .inl (.inl t), fun bv θ1 sd1 μ1 σ1 H1 g hb R1 _ => ⟨xs, .inl (.inl (g.keep _ _ n t)), repL.tr (fun _ _ => g.get) (goes_later g hb) _ _ r⟩⟩
  | ref n =>
    obtain ⟨a, e, hn⟩ := r
    have h : (match μ[n]? with
      | some (.lst ds) => some (ds, fun (μ' : Mem) => μ'[n]? = some (MO.lst ds))
      | _ => none) = some (ds, chk) := h
    cases hm : μ[n]? with
    | none => rw [hm] at h; cases h
    | some mo =>
      rw [hm] at h
      cases mo with
      | ins C fs => cases h
      | lst es =>
        cases h
        obtain ⟨xs, t, r⟩ := R.mem n _ a hm hn
        exact ⟨hm, a, xs, e, .inl (.inl t), fun bv θ1 sd1 μ1 σ1 H1 g hb R1 hc => by
          obtain ⟨ys, t1, r1⟩ := R1.mem n _ a hc (g.get hn)
          exact ⟨ys, .inl (.inl t1), r1⟩⟩
  | _ => cases h
theorem src_ok {d : D} {v : V} {ds : List D} {chk : Mem → Prop} (R : RS K mg H0 av θ sd μ σ H) (r : rep K mg H0 av θ H d v) (h : srcD μ d = some (ds, chk)) :
    chk μ ∧ ∃ a xs, v = .ref a ∧ ((SqL K H a xs ∧ Later K mg H0 av SqL a ds chk θ H) ∨ (SqT K H a xs ∧ Later K mg H0 av SqT a ds chk θ H)) := by
  cases ht : isTupD d with
  | true => obtain ⟨c, a, xs, e, t, l⟩ := src_tup R r h ht; exact ⟨c, a, xs, e, .inr ⟨t, l⟩⟩
  | false => obtain ⟨c, a, xs, e, t, l⟩ := src_lst R r h ht; exact ⟨c, a, xs, e, .inl ⟨t, l⟩⟩
def iSq (K : PySem.W.Frag) (tl : TE) : TI := fun σ H R => tl σ H fun x H1 => ∃ a, x = .ref a ∧ ((∃ xs, SqL K H1 a xs) ∧ R (Itl K a) H1 ∨ (∃ xs, SqT K H1 a xs) ∧ R (Itt K a) H1)
theorem pi_sq {tg l : Expr} {tl : TE} (hl : PE X l tl) : PI X tg l (iSq X.K tl) := by
  refine ⟨fun pins s σ H R I h => thn (hl.run pins s σ H _ I h) fun v s1 ⟨x, H1, I1, r1, a, e, q⟩ => ?_⟩
  subst e
  cases r1
  rcases q with ⟨⟨xs, hq⟩, q⟩ | ⟨⟨xs, hq⟩, q⟩
  · obtain ⟨ws, rv, p, _⟩ := I1.list hq
    refine wpAny_pyIter_list p.isList ⟨s1.heap.objs.size, [s1.heap.objs.size], _, _, H1, rfl, I1.kept (t' := s1.toks) fun b o z => Heap.get?_push_of_some _ z, turn_list a _, ⟨_, Heap.get?_push_size _ rfl, rfl, rfl⟩, fun b hb => ?_, q⟩
    rw [List.mem_singleton.mp hb]
    exact I1.fpOk (Nat.le_refl _) (I1.hok.fresh (Nat.le_refl _))
  · obtain ⟨ws, rv, p, _⟩ := I1.tuple hq
    refine wpAny_pyIter_tuple (show s1.heap.IsTuple a ws.toArray from p) ⟨s1.heap.objs.size, [s1.heap.objs.size], _, _, H1, rfl, I1.kept (t' := s1.toks) fun b o z => Heap.get?_push_of_some _ z, turn_tuple a _, ⟨_, Heap.get?_push_size _ rfl, rfl, rfl⟩, fun b hb => ?_, q⟩
    rw [List.mem_singleton.mp hb]
    exact I1.fpOk (Nat.le_refl _) (I1.hok.fresh (Nat.le_refl _))
theorem it_list {a : Addr} {ds : List D} {chk : Mem → Prop} (h : Later K mg H0 av SqL a ds chk θ H) : ItOk K mg H0 av (Itl K a) ds chk θ H := fun i bv θ1 sd1 μ1 σ1 H1 g hb R hc => by
  obtain ⟨ys, t, r⟩ := h bv θ1 sd1 μ1 σ1 H1 g hb R hc
  refine ⟨fun d hd => ?_, fun hi => ⟨ys, t, by rw [repL.length r]; exact hi⟩⟩
  obtain ⟨v, hv, rv⟩ := repL.get r hd
  refine ⟨⟨ys, v, t, hv⟩, fun x H2 ⟨e, hx⟩ => ?_⟩
  subst e
  have := hx ys t
  rw [hv] at this
  cases this
  exact ⟨Exh.refl _, rv⟩
theorem it_tup {a : Addr} {ds : List D} {chk : Mem → Prop} (h : Later K mg H0 av SqT a ds chk θ H) : ItOk K mg H0 av (Itt K a) ds chk θ H := fun i bv θ1 sd1 μ1 σ1 H1 g hb R hc => by
  obtain ⟨ys, t, r⟩ := h bv θ1 sd1 μ1 σ1 H1 g hb R hc
  refine ⟨fun d hd => ?_, fun hi => ⟨ys, t, by rw [repL.length r]; exact hi⟩⟩
  obtain ⟨v, hv, rv⟩ := repL.get r hd
  refine ⟨⟨ys, v, t, hv⟩, fun x H2 ⟨e, hx⟩ => ?_⟩
  subst e
  have := hx ys t
  rw [hv] at this
  cases this
  exact ⟨Exh.refl _, rv⟩
/-- a value, then what walks it -/
theorem PostI.val {R : It → Hp → Prop} {m : R3 D} {k : D → Mem → R3 (List D × (Mem → Prop))} {Q : VK} (P : PostI K mg H0 W av θ sd σ H R (bE m k))
    (h : ∀ (x : D) (μ1 : Mem) (y : V) (θ1 : List Addr) (H1 : Hp) (nv : List Addr), Gr θ θ1 H H1 → RS K mg H0 (nv ++ av) θ1 sd μ1 σ H1 → relD K mg H0 av θ1 H H1 nv x y → PostI K mg H0 W av θ1 sd σ H1 R (k x μ1) → Q y H1) :
    Post K mg H0 W (relD K mg H0) av θ sd σ H Q m := by
  match m, P with
  | some (.ok x, μ'), P =>
    refine fun y θ' H' nv g R1 r => h x μ' y θ' H' nv g R1 r ?_
    have P : PostI K mg H0 W av θ sd σ H R (k x μ') := P
    match h2 : k x μ', P with
    | some (.error e, μ2), P => exact fun cls dd θ2 H2 g2 R2 r2 => P cls dd θ2 H2 (g.trans g2) R2 r2
    | some (.ok (ds, chk), μ2), P => exact fun J θ2 H2 g2 R2 hc hJ => P J θ2 H2 (g.trans g2) R2 hc hJ
  | some (.error e, μ'), P => exact P
theorem PostI.vals {R : It → Hp → Prop} {m : R3 (List D)} {k : List D → Mem → R3 (List D × (Mem → Prop))} {Q : List V → Hp → Prop} (P : PostI K mg H0 W av θ sd σ H R (bE m k))
    (h : ∀ (x : List D) (μ1 : Mem) (y : List V) (θ1 : List Addr) (H1 : Hp) (nv : List Addr), Gr θ θ1 H H1 → RS K mg H0 (nv ++ av) θ1 sd μ1 σ H1 → repL K mg H0 av θ1 H1 x y → PostI K mg H0 W av θ1 sd σ H1 R (k x μ1) → Q y H1) :
    Post K mg H0 W (relA K mg H0) av θ sd σ H Q m := by
  match m, P with
  | some (.ok x, μ'), P =>
    refine fun y θ' H' nv g R1 r => h x μ' y θ' H' nv g R1 r ?_
    have P : PostI K mg H0 W av θ sd σ H R (k x μ') := P
    match h2 : k x μ', P with
    | some (.error e, μ2), P => exact fun cls dd θ2 H2 g2 R2 r2 => P cls dd θ2 H2 (g.trans g2) R2 r2
    | some (.ok (ds, chk), μ2), P => exact fun J θ2 H2 g2 R2 hc hJ => P J θ2 H2 (g.trans g2) R2 hc hJ
  | some (.error e, μ'), P => exact P
/-- for x in xs -/
def iSeq (f : EE) : IE := fun sd μ => bE (f sd μ) fun d μ1 => (srcD μ1 d).map fun z => (.ok z, μ1)
theorem pid_seq {tg l : Expr} (hl : PE X l (tE X.K X.mg H0 W f)) : PI X tg l (tI X.K X.mg H0 W (iSeq f)) := by
  refine wkI (pi_sq hl) fun σ H R ⟨av, θ, sd, μ, Rs, P⟩ => ⟨av, θ, sd, μ, Rs, P.val fun x μ1 y θ1 H1 nv g R1 r P1 => ?_⟩
  cases h : srcD μ1 x with
  | none => rw [h] at P1; exact P1.elim
  | some z =>
    obtain ⟨ds, chk⟩ := z
    rw [h] at P1
    obtain ⟨hc, a, xs, e, q⟩ := src_ok R1.plain r.1 h
    refine ⟨a, e, ?_⟩
    rcases q with ⟨t, l⟩ | ⟨t, l⟩
    · exact .inl ⟨⟨xs, t⟩, P1 _ θ1 H1 Gr.refl R1.plain hc (it_list l)⟩
    · exact .inr ⟨⟨xs, t⟩, P1 _ θ1 H1 Gr.refl R1.plain hc (it_tup l)⟩
/-- range -/
def rangeD (lo : Int) (n : Nat) : List D := (List.range n).map fun i => .int (lo + (i : Nat))
def one : List D → Option D
  | [d] => some d
  | _ => none
def two : List D → Option (D × D)
  | [d, e] => some (d, e)
  | _ => none
theorem one_rep : ∀ {ds : List D} {vs : List V} {d : D}, repL K mg H0 av θ H ds vs → one ds = some d → ∃ v, vs = [v] ∧ rep K mg H0 av θ H d v
  | [_], _, _, ⟨x, r, e, hx, hr⟩, h => by
    cases h
    have hr : r = [] := hr
    subst hr
    exact ⟨x, e, hx⟩
theorem two_rep {ds : List D} {vs : List V} {d e : D} (r : repL K mg H0 av θ H ds vs) (h : two ds = some (d, e)) : ∃ v w, vs = [v, w] ∧ rep K mg H0 av θ H d v ∧ rep K mg H0 av θ H e w := by
  cases ds with
  | nil => cases h
  | cons d1 ds =>
    cases ds with
    | nil => cases h
    | cons d2 ds =>
      cases ds with
      | cons d3 ds => cases h
      | nil =>
        obtain ⟨x, r1, e1, hx, y, r2, e2, hy, hr⟩ := r
        have hr : r2 = [] := hr
        injection h with h
        injection h with ha hb
        subst hr
        subst e2
        subst ha
        subst hb
        exact ⟨x, y, e1, hx, hy⟩
noncomputable def iR1 (f : EA) : IE := fun sd μ => bE (f sd μ) fun ds μ1 => (one ds).bind fun d => (intD d).bind fun n => when_ (-(2 ^ 62) ≤ n ∧ n < 2 ^ 62) (some (.ok (rangeD 0 n.toNat, fun _ => True), μ1))
noncomputable def iR2 (f : EA) : IE := fun sd μ => bE (f sd μ) fun ds μ1 => (two ds).bind fun d => (intD d.1).bind fun a => (intD d.2).bind fun n => when_ ((-(2 ^ 62) ≤ a ∧ a < 2 ^ 62) ∧ -(2 ^ 62) ≤ n ∧ n < 2 ^ 62) (some (.ok (rangeD a (n - a).toNat, fun _ => True), μ1))
theorem rangeD_length (lo : Int) (n : Nat) : (rangeD lo n).length = n := by simp [rangeD]
theorem it_range {lo : Int} {n : Nat} : ItOk K mg H0 av (Itr lo n) (rangeD lo n) (fun _ => True) θ H := fun i bv θ1 sd1 μ1 σ1 H1 g hb R hc => by
  refine ⟨fun d hd => ?_, fun hi => by rw [rangeD_length] at hi; exact hi⟩
  have hi : i < n := by
    have := (List.getElem?_eq_some_iff.mp hd).1
    rw [rangeD_length] at this
    exact this
  unfold rangeD at hd
  rw [List.getElem?_map, List.getElem?_range hi] at hd
  cases hd
  refine ⟨hi, fun x H2 ⟨e, hx⟩ => ?_⟩
  subst e
  exact ⟨Exh.refl _, hx⟩
theorem pid_range1 {tg : Expr} {p : Pos} (hm : X.mg "range" = none) (ha : PA X [a] (tA X.K X.mg H0 W ga)) (hg : Gl X "range" := by rfl) (hs : starEach [a] X.env = [(false, eval a X.env)] := by rfl) : PI X tg (.Call (.Name "range" p) [a] [] pos) (tI X.K X.mg H0 W (iR1 ga)) := by
  refine wkI (pi_range1 hg hm ha hs) fun σ H R ⟨av, θ, sd, μ, Rs, P⟩ => ⟨av, θ, sd, μ, Rs, P.vals fun ds μ1 vs θ1 H1 nv g R1 r P1 => ?_⟩
  cases h1 : one ds with
  | none => rw [h1] at P1; exact P1.elim
  | some d =>
    cases h2 : intD d with
    | none => rw [h1, Option.bind_some, h2] at P1; exact P1.elim
    | some n =>
      rw [h1, Option.bind_some, h2, Option.bind_some] at P1
      obtain ⟨v, e, hv⟩ := one_rep r h1
      rw [int_rep d v n hv h2] at e
      by_cases c : -(2 ^ 62) ≤ n ∧ n < 2 ^ 62
      · rw [when_t c] at P1
        exact ⟨n, e, c.1, c.2, P1 _ θ1 H1 Gr.refl R1.plain trivial it_range⟩
      · unfold when_ at P1; rw [if_neg c] at P1; exact P1.elim
theorem pid_range2 {tg : Expr} {p : Pos} (hm : X.mg "range" = none) (ha : PA X [a, b] (tA X.K X.mg H0 W ga)) (hg : Gl X "range" := by rfl) (hs : starEach [a, b] X.env = [(false, eval a X.env), (false, eval b X.env)] := by rfl) (hs2 : starEach [b] X.env = [(false, eval b X.env)] := by rfl) :
    PI X tg (.Call (.Name "range" p) [a, b] [] pos) (tI X.K X.mg H0 W (iR2 ga)) := by
  refine wkI (pi_range2 hg hm ha hs hs2) fun σ H R ⟨av, θ, sd, μ, Rs, P⟩ => ⟨av, θ, sd, μ, Rs, P.vals fun ds μ1 vs θ1 H1 nv g R1 r P1 => ?_⟩
  cases h1 : two ds with
  | none => rw [h1] at P1; exact P1.elim
  | some d =>
    obtain ⟨d1, d2⟩ := d
    rw [h1, Option.bind_some] at P1
    cases h2 : intD d1 with
    | none => rw [show intD (d1, d2).1 = none from h2] at P1; exact P1.elim
    | some m =>
      rw [show intD (d1, d2).1 = some m from h2, Option.bind_some] at P1
      cases h3 : intD d2 with
      | none => rw [show intD (d1, d2).2 = none from h3] at P1; exact P1.elim
      | some n =>
        rw [show intD (d1, d2).2 = some n from h3, Option.bind_some] at P1
        obtain ⟨v, w, e, hv, hw⟩ := two_rep r h1
        rw [int_rep d1 v m hv h2, int_rep d2 w n hw h3] at e
        by_cases c : (-(2 ^ 62) ≤ m ∧ m < 2 ^ 62) ∧ -(2 ^ 62) ≤ n ∧ n < 2 ^ 62
        · rw [when_t c] at P1
          exact ⟨m, n, e, ⟨c.1.1, c.1.2, c.2.1, c.2.2⟩, P1 _ θ1 H1 Gr.refl R1.plain trivial it_range⟩
        · unfold when_ at P1; rw [if_neg c] at P1; exact P1.elim
/-- zip of two lists, of two tuples -/
def zipD (xs ys : List D) : List D := List.zipWith (fun x y => .tup [x, y]) xs ys
def iZip2 (f : EA) : IE := fun sd μ => bE (f sd μ) fun ds μ1 => (two ds).bind fun d => (srcD μ1 d.1).bind fun z => (srcD μ1 d.2).bind fun w => if isTupD d.1 = isTupD d.2 then some (.ok (zipD z.1 w.1, fun μ' => z.2 μ' ∧ w.2 μ'), μ1) else none
theorem zip_get {xs ys : List D} {i : Nat} {d : D} (h : (zipD xs ys)[i]? = some d) : ∃ x y, xs[i]? = some x ∧ ys[i]? = some y ∧ d = .tup [x, y] := by
  unfold zipD at h
  rw [List.getElem?_zipWith] at h
  cases h1 : xs[i]? with
  | none => rw [h1] at h; cases h
  | some x =>
    cases h2 : ys[i]? with
    | none => rw [h1, h2] at h; cases h
    | some y => rw [h1, h2] at h; cases h; exact ⟨x, y, rfl, rfl, rfl⟩
theorem pair_rep {x y : D} {u v : V} {T : Addr} (R : RS K mg H0 av θ sd μ σ H) (rx : rep K mg H0 av θ H x u) (ry : rep K mg H0 av θ H y v) (hT : H T = none) :
    Exh H (upd H T (.tup [u, v])) ∧ rep K mg H0 av θ (upd H T (.tup [u, v])) (.tup [x, y]) (.ref T) :=
  ⟨Exh.new hT, T, [u, v], rfl, .inl ⟨R.notin hT, R.notav hT, .inl upd_same⟩, u, [v], rfl, rep.gr (Gr.of_ex (Exh.new hT)) _ _ rx, v, [], rfl, rep.gr (Gr.of_ex (Exh.new hT)) _ _ ry, rfl⟩
theorem it_zipL {a b : Addr} {xs ys : List D} {c1 c2 : Mem → Prop} (h1 : Later K mg H0 av SqL a xs c1 θ H) (h2 : Later K mg H0 av SqL b ys c2 θ H) : ItOk K mg H0 av (Itz K a b) (zipD xs ys) (fun μ => c1 μ ∧ c2 μ) θ H := fun i bv θ1 sd1 μ1 σ1 H1 g hb R hc => by
  obtain ⟨us, t1, r1⟩ := h1 bv θ1 sd1 μ1 σ1 H1 g hb R hc.1
  obtain ⟨vs, t2, r2⟩ := h2 bv θ1 sd1 μ1 σ1 H1 g hb R hc.2
  refine ⟨fun d hd => ?_, fun hi => ⟨us, vs, t1, t2, ?_⟩⟩
  · obtain ⟨x, y, hx, hy, rfl⟩ := zip_get hd
    obtain ⟨u, hu, ru⟩ := repL.get r1 hx
    obtain ⟨v, hv, rv⟩ := repL.get r2 hy
    refine ⟨⟨us, vs, u, v, t1, t2, hu, hv⟩, fun z H2 ⟨T, p, q, ez, hT, eH, k1, k2⟩ => ?_⟩
    have e1 := k1 us t1
    have e2 := k2 vs t2
    rw [hu] at e1
    rw [hv] at e2
    cases e1
    cases e2
    rw [ez, eH]
    exact pair_rep R ru rv hT
  · have : (zipD xs ys).length = min us.length vs.length := by rw [repL.length r1, repL.length r2]; simp [zipD]
    omega
theorem it_zipT {a b : Addr} {xs ys : List D} {c1 c2 : Mem → Prop} (h1 : Later K mg H0 av SqT a xs c1 θ H) (h2 : Later K mg H0 av SqT b ys c2 θ H) : ItOk K mg H0 av (RZ.ItzT K a b) (zipD xs ys) (fun μ => c1 μ ∧ c2 μ) θ H := fun i bv θ1 sd1 μ1 σ1 H1 g hb R hc => by
  obtain ⟨us, t1, r1⟩ := h1 bv θ1 sd1 μ1 σ1 H1 g hb R hc.1
  obtain ⟨vs, t2, r2⟩ := h2 bv θ1 sd1 μ1 σ1 H1 g hb R hc.2
  refine ⟨fun d hd => ?_, fun hi => ⟨us, vs, t1, t2, ?_⟩⟩
  · obtain ⟨x, y, hx, hy, rfl⟩ := zip_get hd
    obtain ⟨u, hu, ru⟩ := repL.get r1 hx
    obtain ⟨v, hv, rv⟩ := repL.get r2 hy
    refine ⟨⟨us, vs, u, v, t1, t2, hu, hv⟩, fun z H2 ⟨T, p, q, ez, hT, eH, k1, k2⟩ => ?_⟩
    have e1 := k1 us t1
    have e2 := k2 vs t2
    rw [hu] at e1
    rw [hv] at e2
    cases e1
    cases e2
    rw [ez, eH]
    exact pair_rep R ru rv hT
  · have : (zipD xs ys).length = min us.length vs.length := by rw [repL.length r1, repL.length r2]; simp [zipD]
    omega
end
end DL
set_option Elab.async false
set_option linter.all false
set_option maxRecDepth 100000
/-! DL, part k: zip, stores by place, chains, truth, while. -/
namespace DL
open PySem PySem.Spec PyProof.Rows L2
section
variable {X : Cx} {K : PySem.W.Frag} {mg : Mg} {H0 : Hp} {W : WX} {av bv θ θ1 : List Addr} {sd : Sl} {μ : Mem} {σ : L2.St} {H H1 : Hp} {a b c e o i : Expr} {f fa fb fc fo fi : EE} {ga : EA} {t : ET} {fs : SS} {body : List Stmt} {pos : Pos}
theorem pid_zip {e e2 : Expr} {p tpos : Pos} {elts : List Expr} {kk : Nat} (hm : X.mg "zip" = none) (ha : PA X [e, e2] (tA X.K X.mg H0 W ga)) (hg : Gl X "zip" := by rfl)
    (hs : starEach [e, e2] X.env = (false, eval e X.env) :: starEach [e2] X.env := by rfl) (hpl : (backTo pos (starEach [e2] X.env)).any (·.1) = false := by rfl) :
    PI X (.Tuple elts kk tpos) (.Call (.Name "zip" p) [e, e2] [] pos) (tI X.K X.mg H0 W (iZip2 ga)) := by
  refine wkI (RZ.pi_zipA hg hm ha hs hpl) fun σ H R ⟨av, θ, sd, μ, Rs, P⟩ => ⟨av, θ, sd, μ, Rs, P.vals fun ds μ1 vs θ1 H1 nv g R1 r P1 => ?_⟩
  cases h1 : two ds with
  | none => rw [h1] at P1; exact P1.elim
  | some d =>
    obtain ⟨d1, d2⟩ := d
    rw [h1, Option.bind_some] at P1
    obtain ⟨v, w, e, hv, hw⟩ := two_rep r h1
    cases h2 : srcD μ1 d1 with
    | none => rw [show srcD μ1 (d1, d2).1 = none from h2] at P1; exact P1.elim
    | some z1 =>
      rw [show srcD μ1 (d1, d2).1 = some z1 from h2, Option.bind_some] at P1
      cases h3 : srcD μ1 d2 with
      | none => rw [show srcD μ1 (d1, d2).2 = none from h3] at P1; exact P1.elim
      | some z2 =>
        rw [show srcD μ1 (d1, d2).2 = some z2 from h3, Option.bind_some] at P1
        have P1 : PostI X.K X.mg H0 W av θ1 sd σ H1 R (if isTupD d1 = isTupD d2 then some (.ok (zipD z1.1 z2.1, fun μ' => z1.2 μ' ∧ z2.2 μ'), μ1) else none) := P1
        by_cases q : isTupD d1 = isTupD d2
        case neg => rw [if_neg q] at P1; exact P1.elim
        rw [if_pos q] at P1
        have R1 := R1.plain
        cases ht : isTupD d1 with
        | true =>
          obtain ⟨c1, a, xs, rfl, t1, l1⟩ := src_tup R1 hv h2 ht
          obtain ⟨c2, b, ys, rfl, t2, l2⟩ := src_tup R1 hw h3 (q ▸ ht)
          exact ⟨a, b, xs, ys, e, .inr ⟨t1, t2, P1 _ θ1 H1 Gr.refl R1 ⟨c1, c2⟩ (it_zipT l1 l2)⟩⟩
        | false =>
          obtain ⟨c1, a, xs, rfl, t1, l1⟩ := src_lst R1 hv h2 ht
          obtain ⟨c2, b, ys, rfl, t2, l2⟩ := src_lst R1 hw h3 (q ▸ ht)
          exact ⟨a, b, xs, ys, e, .inl ⟨t1, t2, P1 _ θ1 H1 Gr.refl R1 ⟨c1, c2⟩ (it_zipL l1 l2)⟩⟩

/-! ### xs[i] = v -/
def setM (μ : Mem) (x y d : D) : Option Mem := match x, y with
  | .ref n, .int k => match μ[n]? with
    | some (.lst ds) => if notNew d = true then (ixN ds.length k).map fun j => μ.set n (.lst (ds.set j d)) else none
    | _ => none
  | _, _ => none
theorem repL.set {d : D} {v : V} (rd : rep K mg H0 av θ H d v) : ∀ (j : Nat) {ds : List D} {xs : List V}, repL K mg H0 av θ H ds xs → repL K mg H0 av θ H (ds.set j d) (xs.set j v)
  | _, [], xs, h => by
    have h : xs = [] := h
    subst h
    exact rfl
  | 0, e :: ds, _, ⟨x, r, q, h, t⟩ => by subst q; exact ⟨v, r, rfl, rd, t⟩
  | j + 1, e :: ds, _, ⟨x, r, q, h, t⟩ => by subst q; exact ⟨x, r.set j v, rfl, h, repL.set rd j t⟩
theorem setM_ok {x y d : D} {u v w : V} {μ' : Mem} {Q : Hp → Prop} (R : RS K mg H0 av θ sd μ σ H) (rx : rep K mg H0 av θ H x u) (ry : rep K mg H0 av θ H y v) (rd : rep K mg H0 av θ H d w) (h : setM μ x y d = some μ')
    (q : ∀ H', Gr θ θ H H' → RS K mg H0 av θ sd μ' σ H' → Q H') : rSetL u v w H Q := by
  cases x with
  | ref n =>
    cases y with
    | int k =>
      obtain ⟨a, rfl, hn⟩ := rx
      have ry : v = .int k := ry
      subst ry
      have h : (match μ[n]? with
        | some (.lst ds) => if notNew d = true then (ixN ds.length k).map fun j => μ.set n (.lst (ds.set j d)) else none
        | _ => none) = some μ' := h
      cases hm : μ[n]? with
      | none => rw [hm] at h; cases h
      | some mo =>
        rw [hm] at h
        cases mo with
        | ins C fs => cases h
        | lst ds =>
          have h : (if notNew d = true then (ixN ds.length k).map fun j => μ.set n (.lst (ds.set j d)) else none) = some μ' := h
          by_cases hn0 : notNew d = true
          case neg => rw [if_neg hn0] at h; cases h
          rw [if_pos hn0] at h
          cases hj : ixN ds.length k with
          | none => rw [hj] at h; cases h
          | some j =>
            rw [hj] at h
            cases h
            obtain ⟨xs, t, r⟩ := R.mem n _ a hm hn
            refine ⟨a, xs, k, j, rfl, rfl, t, by rw [repL.length r]; exact hj, ?_⟩
            have ha : a ∈ θ := List.mem_of_getElem? hn
            have g0 : Gr θ θ H (upd H a (.lst (xs.set j w))) := ⟨List.prefix_refl _, fun b h m => absurd h m, fun b u m e => by rw [upd_ne (fun z => m (by rw [z]; exact ha))]; exact e⟩
            obtain ⟨g, R'⟩ := R.setO hn (mo := .lst (ds.set j d)) (o := .lst (xs.set j w)) ⟨_, upd_same, repL.gr g0 _ _ (repL.set rd j r)⟩
            exact q _ g R'
    | _ => cases h
  | _ => cases h
def gSub (fo fi : EE) : TgD := fun sd μ d => match fo sd μ with
  | some (.ok x, μ1) => match fi sd μ1 with
    | some (.ok y, μ2) => (setM μ2 x y d).map fun μ3 => (sd, μ3)
    | _ => none
  | _ => none
theorem pgd_sub (ho : PE X o (tE X.K X.mg H0 W fo)) (hi : PE X i (tE X.K X.mg H0 W fi))
    (ha : ∀ v, assign (.Subscript o i pos) X.env v = (do
      let ov ← holding [v] (eval o X.env)
      let iv ← holding [v, ov] (eval i X.env)
      standAt pos
      holding [v, ov, iv] (setItem ov iv v)
      release [v, ov, iv] []) := by intro _; rfl) : PG X (.Subscript o i pos) (tG X.K X.mg H0 [] (gSub fo fi)) := by
  refine wkG (pg_sub ho hi set_list ha) fun v σ H Q ⟨av, θ, sd, μ, d, R, r, P⟩ => ⟨av, θ, sd, μ, R, ?_⟩
  unfold gSub at P
  cases h1 : fo sd μ with
  | none => rw [h1] at P; exact P.elim
  | some z =>
    obtain ⟨rx, μ1⟩ := z
    rw [h1] at P
    cases rx with
    | error x => exact P.elim
    | ok x =>
      intro u θ1 H1 nv g1 R1 r1
      refine ⟨av, θ1, sd, μ1, R1.plain, ?_⟩
      simp only at P
      cases h2 : fi sd μ1 with
      | none => rw [h2] at P; exact P.elim
      | some z =>
        obtain ⟨ry, μ2⟩ := z
        rw [h2] at P
        cases ry with
        | error y => exact P.elim
        | ok y =>
          intro w θ2 H2 nw g2 R2 r2
          simp only at P
          cases h3 : setM μ2 x y d with
          | none => rw [h3] at P; exact P.elim
          | some μ3 =>
            rw [h3] at P
            have g12 := g1.trans g2
            exact setM_ok R2.plain (repG g2 r1.1) r2.1 (repG g12 r) h3 fun H' g R' => P σ θ2 H' (g12.trans g) R' rfl fun _ _ => rfl

/-! ### x op= e, xs[i] op= e -/
def sAug (j : Nat) (g : Mem → D → D → Option D) (f : EE) : SS := fun sd μ => match sd[j]? with
  | some (some x) => bS (f sd μ) sd fun y μ1 => match g μ1 x y with
    | some (.new _) => none
    | some d => some (.nx, sd.set j (some d), μ1)
    | none => none
  | _ => none
theorem ps_augN (j : Nat) {x : Str} {op : Operator} {g : Mem → D → D → Option D} {pos' : Pos} (hN : X.N.Nodup) (ho : OpD X (inplaceOp op) g) (he : PE X e (tE X.K X.mg H0 W f)) (hi : X.N[j]? = some x := by rfl) (hx : Loc X.env.scope x := by first | exact Or.inl rfl | exact Or.inr rfl)
    (hf : X.fn x = true ∨ X.env.scope.names.lookup x = some .local := by first | exact .inl rfl | exact .inr rfl) : PS X (.AugAssign (.Name x pos') op e pos) (tS X.K X.mg H0 W (sAug j g f)) := by
  obtain ⟨r, hr, k⟩ := ho H0
  refine wkS (ps_aug hN hi hx he hr hf) fun E σ H ⟨av, θ, sd, μ, R, P⟩ => ?_
  unfold sAug at P
  cases hj : sd[j]? with
  | none => rw [hj] at P; exact P.elim
  | some od =>
    cases od with
    | none => rw [hj] at P; exact P.elim
    | some d0 =>
      rw [hj] at P
      obtain ⟨v, hv, rv⟩ := R.sl.2 j d0 hj
      refine ⟨v, hv, av, θ, sd, μ, R, PostS.val R P fun y μ1 w θ1 H1 nv g1 R1 r1 P1 => ?_⟩
      cases hg : g μ1 d0 y with
      | none => simp only [hg] at P1; exact P1.elim
      | some d =>
        simp only [hg] at P1
        refine k av θ1 sd μ1 σ H1 d0 y v w d _ R1.plain (repG g1 rv) r1.1 hg fun z H' nw e R2 r2 => ?_
        have P1 : PostS X.K X.mg H0 W av θ1 H1 E (some (.nx, sd.set j (some d), μ1)) := by cases d <;> first | exact P1 | exact P1.elim
        exact P1 _ θ1 H' (Gr.of_ex e) (R2.plain.set j r2.1)
/-- a place from 0 on -/
def posI : D → Bool
  | .int i => decide (0 ≤ i)
  | _ => false
def sAugS (fo fi : EE) (g : Mem → D → D → Option D) (f : EE) : SS := fun sd μ => bS (fo sd μ) sd fun x μ1 => bS (fi sd μ1) sd fun y μ2 => match (if posI y = true then gIxL μ2 x y else none) with
  | none => none
  | some old => bS (f sd μ2) sd fun z μ3 => match g μ3 old z with
    | none => none
    | some d => (setM μ3 x y d).map fun μ4 => (.nx, sd, μ4)
def rGetL (K : PySem.W.Frag) : R2 := fun x y H Q => ∃ p xs i v, x = .ref p ∧ y = .int i ∧ SqL K H p xs ∧ L2.atI xs i = some v ∧ 0 ≤ i ∧ Q v H
theorem opr_getL : OpR X getItem (rGetL X.K) := by
  intro pins s σ H x y v u Q I rx ry h
  obtain ⟨p, xs, j, z, rfl, rfl, hq, he, h0, q⟩ := h
  cases rx
  obtain ⟨t, rfl⟩ := ry
  obtain ⟨ws, r, pl, hz⟩ := I.list hq
  obtain ⟨m, h1, h2, h3, h4, h5⟩ := atI_get he
  obtain ⟨w, ew, rw'⟩ := r.get h2
  have hl := r.length
  have hn := line63
  have hj : j.toNat = m := by
    rw [seqIndex_of h0 h5] at h1
    exact Option.some.inj h1
  exact wpAny_getItem_list pl.isList h0 (by omega) (by rw [hj]; simpa using ew) ⟨z, H, I, rw', q⟩
theorem rGet_ok {x y d : D} {u v : V} {Q : VK} (R : RS X.K X.mg H0 av θ sd μ σ H) (rx : rep X.K X.mg H0 av θ H x u) (ry : rep X.K X.mg H0 av θ H y v) (h : gIxL μ x y = some d) (h0 : ∀ i, y = .int i → 0 ≤ i) (q : ∀ w, rep X.K X.mg H0 av θ H d w → Q w H) : rGetL X.K u v H Q := by
  cases y with
  | int i =>
    have h : ((lsAny μ x).bind fun ds => itemD (L2.atI ds i)) = some d := h
    cases h1 : lsAny μ x with
    | none => rw [h1] at h; cases h
    | some ds =>
      rw [h1] at h
      obtain ⟨h2, hn⟩ := itemD_some h
      obtain ⟨a, xs, e, t, r⟩ := lsAny_at R rx h1
      obtain ⟨w, hw, rw'⟩ := repL.atI r h2
      exact ⟨a, xs, i, w, e, ry, t, hw, h0 i rfl, q w rw'⟩
  | _ => cases h
theorem ps_augI {op : Operator} {g : Mem → D → D → Option D} {tpos : Pos} (hop : OpD X (inplaceOp op) g) (ho : PE X o (tE X.K X.mg H0 W fo)) (hi : PE X i (tE X.K X.mg H0 W fi)) (he : PE X e (tE X.K X.mg H0 W f))
    (ha : ∀ ov iv new, augStore i ov iv new = (do holding [new, ov, iv] (setItem ov iv new); release [new, ov, iv] []; pure .next) := by intros; rfl) : PS X (.AugAssign (.Subscript o i tpos) op e pos) (tS X.K X.mg H0 W (sAugS fo fi g f)) := by
  obtain ⟨r, hr, k⟩ := hop H0
  refine wkS (ps_augS ho hi opr_getL he hr set_list ha) fun E σ H ⟨av, θ, sd, μ, R, P⟩ => ⟨av, θ, sd, μ, R, PostS.val R P fun x μ1 u θ1 H1 nv g1 R1 r1 P1 => ?_⟩
  refine ⟨av, θ1, sd, μ1, R1.plain, PostS.val R1.plain P1 fun y μ2 v θ2 H2 nw g2 R2 r2 P2 => ?_⟩
  have R2 := R2.plain
  cases h : (if posI y = true then gIxL μ2 x y else none) with
  | none => simp only [h] at P2; exact P2.elim
  | some old =>
    simp only [h] at P2
    by_cases hp : posI y = true
    case neg => rw [if_neg hp] at h; cases h
    rw [if_pos hp] at h
    refine rGet_ok R2 (repG g2 r1.1) r2.1 h (fun i e => by subst e; exact of_decide_eq_true hp) fun w rw' => ?_
    refine ⟨av, θ2, sd, μ2, R2, PostS.val R2 P2 fun z μ3 q θ3 H3 nu g3 R3 r3 P3 => ?_⟩
    have R3 := R3.plain
    cases hg : g μ3 old z with
    | none => simp only [hg] at P3; exact P3.elim
    | some d =>
      simp only [hg] at P3
      refine k av θ3 sd μ3 σ H3 old z w q d _ R3 (repG g3 rw') r3.1 hg fun nd H' nx ex R4 r4 => ?_
      cases hs : setM μ3 x y d with
      | none => rw [hs] at P3; exact P3.elim
      | some μ4 =>
        rw [hs] at P3
        have g4 := Gr.of_ex (θ := θ3) ex
        exact setM_ok R4.plain (repG g4 (repG g3 (repG g2 r1.1))) (repG g4 (repG g3 r2.1)) r4.1 hs fun H5 g5 R5 => P3 σ θ3 H5 (g4.trans g5) R5
end
end DL
set_option Elab.async false
set_option linter.all false
set_option maxRecDepth 100000
/-! DL, part l: name = [..], truth, chains; a def by the head's facts; a law's end. -/
namespace DL
open PySem PySem.Spec PyProof.Rows L2
section
variable {X : Cx} {K : PySem.W.Frag} {mg : Mg} {H0 : Hp} {W : WX} {av bv θ θ1 : List Addr} {sd : Sl} {μ : Mem} {σ : L2.St} {H H1 : Hp} {a b c e o i : Expr} {f fa fb fc fo fi : EE} {ga : EA} {t : ET} {fs : SS} {body : List Stmt} {pos : Pos}
/-- y = [..] -/
theorem ps_assignLc (j : Nat) {y : Str} {py : Pos} {elt tg iter : Expr} {ifs : List Expr} {scope : Scope} {own : List (Str × Nat)} {spos : Pos} {fi : IE} {is : List Nat} {g : TgD} {q : ET} (hc : X.calm = true) (hN : X.N.Nodup) (hi : PI X tg iter (tI X.K X.mg H0 W fi)) (ok : BlkOk X.N X.env.scope scope own)
    (hg : ∀ (s : Shared) (H : Hp) (C : Addr) (cl : List (Str × Addr)) (fp : List Addr), PG (X.blk s H scope (compEnvC scope cl C X.env) fp) tg (tG X.K X.mg H0 is g)) (his : ∀ i ∈ is, i ∈ own.map (·.2))
    (ht : ∀ (s : Shared) (H : Hp) (C : Addr) (cl : List (Str × Addr)) (fp : List Addr), PTs (X.blk s H scope (compEnvC scope cl C X.env) fp) ifs (tT X.K X.mg H0 WF q))
    (he : ∀ (s : Shared) (H : Hp) (C : Addr) (cl : List (Str × Addr)) (fp : List Addr), PE (X.blk s H scope (compEnvC scope cl C X.env) fp) elt (tE X.K X.mg H0 WF f))
    (hsw : swapsWith (.ListComp elt [⟨tg, iter, ifs, 0⟩] scope pos) (some (.Name y py)) spos.line X.env = pure true) (hy : X.N[j]? = some y := by rfl) (hyl : X.env.scope.names.lookup y = some .local := by rfl) (hs : ∀ x, foldedSetIterable iter X.env x = pure x := by intro _; rfl) :
    PS X (.Assign [.Name y py] (.ListComp elt [⟨tg, iter, ifs, 0⟩] scope pos) spos) (tS X.K X.mg H0 W (sAsg (eOwn (eLc fi g q f (own.map (·.2)))) (gD j))) := by
  refine wkS (ps_setLc hc hN hy hyl hsw hi ok hg ht he hs) fun E σ H ⟨av, θ, sd, μ, R, P⟩ => lc_read his (own_read ⟨av, θ, sd, μ, R, P.val R fun x μ1 y θ1 H1 nv g R1 r P1 => ?_⟩)
  have P1 : PostS X.K X.mg H0 W av θ1 H1 E ((gD j sd μ1 x).map fun z => (.nx, z.1, z.2)) := P1
  have P2 : PostS X.K X.mg H0 W av θ1 H1 E (some (.nx, sd.set j (some x), μ1)) := by cases x <;> first | exact P1 | exact P1.elim
  exact P2 _ θ1 H1 Gr.refl (R1.plain.set j r.1)

/-! ### truth of any value -/
def truD (μ : Mem) : D → Option Bool
  | .non => some false
  | .bl b => some b
  | .int i => some (i != 0)
  | .str z => if z.length ≤ sizeLine then some ((z.length : Int) != 0) else none
  | d => (sqAny μ d).map fun ds => !ds.isEmpty
theorem repL.isEmpty {ds : List D} {xs : List V} (r : repL K mg H0 av θ H ds xs) : xs.isEmpty = ds.isEmpty := by
  cases ds with
  | nil =>
    have r : xs = [] := r
    subst r
    rfl
  | cons d ds => obtain ⟨x, rr, e, _, _⟩ := r; subst e; rfl
theorem tru_rep {d : D} {v : V} {k : Bool} (R : RS X.K X.mg H0 av θ sd μ σ H) (r : rep X.K X.mg H0 av θ H d v) (h : truD μ d = some k) : TruV X.K v H k := by
  have sq : ∀ {d : D}, rep X.K X.mg H0 av θ H d v → ((sqAny μ d).map fun ds => !ds.isEmpty) = some k → TruV X.K v H k := fun {d} r h => by
    cases q : sqAny μ d with
    | none => rw [q] at h; cases h
    | some ds =>
      rw [q] at h
      cases h
      obtain ⟨a, xs, rfl, t, r⟩ := sqAny_at R r q
      exact t.elim (fun t => .inl ⟨xs, t, by rw [repL.isEmpty r]⟩) (fun t => .inr (.inl ⟨xs, t, by rw [repL.isEmpty r]⟩))
  cases d with
  | non => cases h; cases r; rfl
  | bl b => cases h; cases r; rfl
  | int i => cases h; cases r; rfl
  | str z =>
    have h : (if z.length ≤ sizeLine then some ((z.length : Int) != 0) else none) = some k := h
    split at h
    · rename_i hz
      cases h
      cases r
      exact ⟨hz, rfl⟩
    · cases h
  | _ => exact sq r h
def qTru (f : EE) : ET := fun sd μ => bE (f sd μ) fun x μ1 => (truD μ1 x).map fun b => (.ok b, μ1)
theorem pq_tru (ha : PE X a (tE X.K X.mg H0 W fa)) (he : ∀ whole, isTrue a X.env whole = (do let v ← whole; standAt a.pos; holding [v] (truthy v)) := by intro _; rfl) : PT X a (tT X.K X.mg H0 W (qTru fa)) := by
  refine wkT (pt_truth ha he) fun σ H Q ⟨av, θ, sd, μ, R, P⟩ => ⟨av, θ, sd, μ, R, P.bind antiB fun x μ1 v θ1 H1 nv g1 R1 r1 P1 => ?_⟩
  cases h : truD μ1 x with
  | none => rw [h] at P1; exact P1.elim
  | some k =>
    rw [h] at P1
    exact ⟨k, tru_rep R1.plain r1.1 h, P1 k θ1 H1 [] Gr.refl R1.plain rfl⟩

/-! ### a < b < c -/
def eChain (g1 g2 : Mem → D → D → Option D) (fa fb fc : EE) : EE := fun sd μ => bE (fa sd μ) fun x μ1 => bE (fb sd μ1) fun y μ2 => (g1 μ2 x y).bind fun r => (boolD r).bind fun k => if k = true then bE (fc sd μ2) fun z μ3 => (g2 μ3 y z).map fun d => (.ok d, μ3) else some (.ok (.bl false), μ2)
theorem pd_chain {op op' : CmpOp} {g1 g2 : Mem → D → D → Option D} (ho : OpD X (compareOp op) g1) (ho' : OpD X (compareOp op') g2) (ha : PE X a (tE X.K X.mg H0 W fa)) (hb : PE X b (tE X.K X.mg H0 W fb)) (hc : PE X c (tE X.K X.mg H0 W fc))
    (hm : lastMarks [op, op'] [b, c] = false := by with_unfolding_all rfl) : PE X (.Compare a [op, op'] [b, c] pos) (tE X.K X.mg H0 W (eChain g1 g2 fa fb fc)) := by
  obtain ⟨r, hr, k⟩ := ho H0
  obtain ⟨r', hr', k'⟩ := ho' H0
  refine wkE (pe_chain hr hr' ha hb hc hm) fun σ H Q ⟨av, θ, sd, μ, R, P⟩ => ⟨av, θ, sd, μ, R, P.bind antiD fun x μ1 v θ1 H1 nv g1' R1 r1 P1 => ?_⟩
  refine ⟨av, θ1, sd, μ1, R1.plain, P1.bind antiD fun y μ2 w θ2 H2 nw g2' R2 r2 P2 => ?_⟩
  cases h : g1 μ2 x y with
  | none => rw [h] at P2; exact P2.elim
  | some d =>
    rw [h] at P2
    refine k av θ2 sd μ2 σ H2 x y v w d _ R2.plain (repG g2' r1.1) r2.1 h fun u H' nu e R3 r3 => ?_
    cases d with
    | bl q =>
      refine ⟨q, r3.1, ?_⟩
      have P2 : Post X.K X.mg H0 W (relD X.K X.mg H0) av θ2 sd σ H2 Q (if q = true then bE (fc sd μ2) fun z μ3 => (g2 μ3 y z).map fun d => (.ok d, μ3) else some (.ok (.bl false), μ2)) := P2
      have P3 := P2.rebase antiD (Gr.of_ex e) R3.plain
      cases q with
      | false => exact P3 (.bl false) θ2 H' [] Gr.refl R3.plain ⟨rfl, fun _ e => by cases e⟩
      | true =>
        refine ⟨av, θ2, sd, μ2, R3.plain, P3.bind antiD fun z μ4 w' θ4 H4 nw4 g4 R4 r4 P4 => ?_⟩
        obtain ⟨d, hd, qq⟩ := P4.ask
        exact k' av θ4 sd μ4 σ H4 y z w w' d Q R4.plain (repG ((Gr.of_ex e).trans g4) r2.1) r4.1 hd qq
    | _ => exact P2.elim
theorem pq_chain {op op' : CmpOp} {g1 g2 : Mem → D → D → Option D} (ho : OpD X (compareOp op) g1) (ho' : OpD X (compareOp op') g2) (ha : PE X a (tE X.K X.mg H0 W fa)) (hb : PE X b (tE X.K X.mg H0 W fb)) (hc : PE X c (tE X.K X.mg H0 W fc))
    (hm : lastMarks [op, op'] [b, c] = false := by with_unfolding_all rfl) : PT X (.Compare a [op, op'] [b, c] pos) (tT X.K X.mg H0 W (qB (eChain g1 g2 fa fb fc))) := by
  obtain ⟨r, hr, k⟩ := ho H0
  obtain ⟨r', hr', k'⟩ := ho' H0
  refine wkT (pt_chain hr hr' ha hb hc hm) fun σ H Q ⟨av, θ, sd, μ, R, P⟩ => ?_
  have bb : ∀ {α β γ : Type} (m : R3 α) (k : α → Mem → R3 β) (j : β → Mem → R3 γ), bE (bE m k) j = bE m fun x μ => bE (k x μ) j := by
    intro α β γ m k j
    cases m with
    | none => rfl
    | some z => obtain ⟨r, m⟩ := z; cases r <;> rfl
  unfold qB eChain at P
  rw [bb] at P
  refine ⟨av, θ, sd, μ, R, P.bind antiB fun x μ1 v θ1 H1 nv g1' R1 r1 P1 => ?_⟩
  rw [bb] at P1
  refine ⟨av, θ1, sd, μ1, R1.plain, P1.bind antiB fun y μ2 w θ2 H2 nw g2' R2 r2 P2 => ?_⟩
  cases h : g1 μ2 x y with
  | none => rw [h] at P2; exact P2.elim
  | some d =>
    rw [h] at P2
    refine k av θ2 sd μ2 σ H2 x y v w d _ R2.plain (repG g2' r1.1) r2.1 h fun u H' nu e R3 r3 => ?_
    cases d with
    | bl q =>
      refine ⟨q, r3.1, ?_⟩
      cases q with
      | false =>
        have P2 : Post X.K X.mg H0 W relB av θ2 sd σ H2 Q (some (.ok false, μ2)) := P2
        exact ⟨false, rfl, P2 false θ2 H' [] (Gr.of_ex e) R3.plain rfl⟩
      | true =>
        have P2 : Post X.K X.mg H0 W relB av θ2 sd σ H2 Q (bE (bE (fc sd μ2) fun z μ3 => (g2 μ3 y z).map fun d => (.ok d, μ3)) fun x μ1 => match x with | .bl b => some (.ok b, μ1) | _ => none) := P2
        rw [bb] at P2
        have P3 := P2.rebase antiB (Gr.of_ex e) R3.plain
        refine ⟨av, θ2, sd, μ2, R3.plain, P3.bind antiB fun z μ4 w' θ4 H4 nw4 g4 R4 r4 P4 => ?_⟩
        cases h' : g2 μ4 y z with
        | none => rw [h'] at P4; exact P4.elim
        | some d =>
          rw [h'] at P4
          refine k' av θ4 sd μ4 σ H4 y z w w' d _ R4.plain (repG ((Gr.of_ex e).trans g4) r2.1) r4.1 h' fun u5 H5 nu5 e5 R5 r5 => ?_
          cases d with
          | bl q5 => exact ⟨q5, r5.1, P4 q5 θ4 H5 [] (Gr.of_ex e5) R5.plain rfl⟩
          | _ => exact P4.elim
    | _ => exact P2.elim
end
end DL
set_option Elab.async false
set_option linter.all false
set_option maxRecDepth 100000
/-! DL, part m: a def by the head's facts; a law's end. -/
namespace DL
open PySem PySem.Spec PyProof.Rows L2
theorem un65 {k : Nat} {A : Around} (r : Room k A) : A.units + 65 < cLine := by have := r.un; omega
section
variable {P : Program} {w : World} {K : PySem.W.Frag} {mg : Mg} {base : Heap}
abbrev FnP (K : PySem.W.Frag) (x : Str) (st : Stmt) (f : Addr) (fd : FuncData) : Prop := FunD K x x (defArgs st) (defBody st) (defScope st) [] [] f fd
/-- the body's derivation, ready at any frame -/
def Body (P : Program) (w : World) (K : PySem.W.Frag) (mg : Mg) (base : Heap) (k : Nat) (N : List Str) (qual : Str) (st : Stmt) (body : SS) : Prop :=
  ∀ (f : Addr) (cdv : Value) (A : Around) (outer : List Env) (s : Shared) (H : Hp) (E : XK), Room k (A.deeper (envOfC qual (defScope st) s.heap.objs.size f cdv)) →
    PSs (cxOf (L2.CX P w) P w K mg base N qual (defScope st) f cdv A outer s H E) (defBody st) (tS K mg H (fun cls d _ H' => E cls d H') body)
theorem funD_ok {x : Str} {st : Stmt} {f : Addr} {fd : FuncData} {N ps : List Str} {k : Nat} {body : SS} (F : FnP K x st f fd) (S : FnScope N ps (defScope st)) (hbody : Body P w K mg base k N x st body) :
    FnOk P w K mg base (L2.CX P w) (k + 1) f fd ps (spD K mg ps.length (runF N.length body)) := by
  obtain ⟨oc, od, dV, kV, doc, pm, an, cdv, ct, osl, rfl, lk, hcd, hD, _⟩ := F.ex
  rcases hD with ⟨_, rfl⟩ | ⟨e, _⟩
  · exact def_ok ⟨⟨oc, od, kV, doc, pm, an, cdv, ct, osl, rfl, lk, hcd⟩, F.kp⟩ S fun cdv A outer s H E hr => hbody f cdv A outer s H E hr
  · exact absurd rfl e
theorem fnD_mk {x : Str} {st : Stmt} {f : Addr} {fd : FuncData} {N ps : List Str} {k np : Nat} {body : SS} (F : FnP K x st f fd) (hmg : mg x = some (.ref f)) (S : FnScope N ps (defScope st)) (hbody : Body P w K mg base k N x st body)
    (hb : Binds K fd ps []) (hn : ps.length = np) : FnD P w K mg base x (k + 1) np (runF N.length body) := by
  subst hn
  exact ⟨f, fd, ps, hmg, F.kp, hb, rfl, funD_ok F S hbody⟩
/-- nothing is promised: a def at depth 0 -/
theorem fnD_none {x : Str} {st : Stmt} {f : Addr} {fd : FuncData} {N ps : List Str} {k np : Nat} (F : FnP K x st f fd) (hmg : mg x = some (.ref f)) (S : FnScope N ps (defScope st)) 
    (hb : Binds K fd ps []) (hn : ps.length = np) : FnD P w K mg base x (k + 1) np (fun _ => none) := by
  subst hn
  refine ⟨f, fd, ps, hmg, F.kp, hb, rfl, FunD.ok (CX := L2.CX P w) F S (fun vs H Q E h => ?_) (fun cdv A outer s H vs Q E hr h => ?_)⟩
  · obtain ⟨_, _, _, _, _, h⟩ := h
    exact h.elim
  · obtain ⟨_, _, _, _, _, h⟩ := h
    exact h.elim
end
/-- a law's script, its end -/
theorem law_sp {K : PySem.W.Frag} {mg : Mg} {H : Hp} {a : Addr} {ns : List Int} {m : Mir} (hS : SqL K H a (ns.map V.int)) (h : m [.lck (ns.map D.int)] = some (.ok (.bl true))) :
    spD K mg 1 m [.ref a] H (fun v _ => v = .bl true) fun _ _ _ => False := by
  have key : ∀ ns : List Int, repL K mg H [] [] H (ns.map D.int) (ns.map V.int) := fun ns => by
    induction ns with
    | nil => rfl
    | cons n ns ih => exact ⟨_, _, rfl, rfl, ih⟩
  refine ⟨[], [.lck (ns.map D.int)], fun a h => by simp at h, ⟨_, _, rfl, ⟨a, _, rfl, hS, key ns⟩, rfl⟩, rfl, ?_⟩
  rw [h]
  exact fun v H' _ r => r.2.1
theorem none_out {P : Program} {w : World} (H : Hp) (s : Shared) (e : Value) (s' : Shared) : L2.CX P w [] H s (fun _ _ _ => False) e s' → False := fun h => by
  obtain ⟨_, _, _, _, _, _, _, _, _, _, _, _, z⟩ := h
  exact z
/-- a law whose defs may let exceptions out: its end -/
theorem law_end {l : PySem.W.OpenLaw} {n lv : Nat} {qq : Program} {lo : List Str} {P1 : (Str → Option Value) → Heap → Prop} {P2 : World → Heap → Prop} {dr : DefRec} {par : Str}
    (h1 : l.most = some n) (h2 : n ≤ sizeLine) (h3 : dr.params.defaults = []) (h4 : Room lv callerA)
    (get : ∀ (u : World) (gl : Str → Option Value) (ad : Addr) (hp : Heap), P2 u hp → hp.Ns mainGlobals gl → gl dr.name = some (.ref ad) →
      ∃ (fr : PySem.W.Frag) (data : FuncData) (m : Mir), fr.In hp ∧ (∀ (sh : Shared) (z : Value), BindsTo sh data ⟨[z], []⟩ [(par, z)]) ∧
        (∀ ns : List Int, ns.length ≤ n → m [.lck (ns.map D.int)] = some (.ok (.bl true))) ∧
        ∀ bs : Heap, fr.In bs → bs.Ns mainGlobals gl → FnOk l.prog u fr gl bs (L2.CX l.prog u) lv ad data [par] (spD fr gl 1 m)) :
    PySem.W.WalkO qq lo P1 P2 l.row.toRowW dr [] (fun f vs => PySem.call f vs) := by
  refine Att.attach_call h1 h3 fun w s₀ s₁ mg mb fa o pm cd doc a vs ns G Y ho hd hcd hmg hobj hints hlen hg => ?_
  obtain ⟨K, fd, m, KX, hb, hm, hF⟩ := get w mg fa _ Y G.T.g hmg
  refine law_call KX G.T.g G.T.b G.T.builtins G.T.nolimit hg hobj hints (Nat.le_trans hlen h2) h4 hF hb (fun H hO hS => ?_) fun H e s' h => none_out H s₁ e s' h
  exact law_sp hS (hm ns hlen)
end DL
set_option Elab.async false
set_option linter.all false
set_option maxRecDepth 100000
/-! DL, part n: the mirrors worked out (no program in sight). -/
namespace DL
open PySem PySem.Spec PyProof.Rows L2
theorem le_size {n : Nat} (h : n ≤ 100000) : n ≤ sizeLine := Nat.le_trans h (by decide)
@[simp] theorem runF_def (n : Nat) (b : SS) (ds : List D) : runF n b ds = match b (ds.map some ++ List.replicate (n - ds.length) none) [] with
  | some (.ret d, _, _) => some (.ok d)
  | some (.nx, _, _) => some (.ok .non)
  | some (.exc e, _, _) => some (.error e)
  | _ => none := rfl
/-! ### comprehensions -/
theorem lcF_eq {α : Type} {chk : Mem → Prop} {t : TgD} {q : ET} {f : EE} {sd : Sl} {μ : Mem} {e : α → D} {b : α → Bool} {g : α → D} (hc : chk μ) : ∀ l : List α,
    (∀ a ∈ l, ∃ sd1, t sd μ (e a) = some (sd1, μ) ∧ q sd1 μ = some (.ok (b a), μ) ∧ (b a = true → f sd1 μ = some (.ok (g a), μ) ∧ notNew (g a) = true)) →
    lcF chk t q f sd (l.map e) μ = some (.ok ((l.filter b).map g), μ)
  | [], _ => rfl
  | a :: l, h => by
    obtain ⟨sd1, h1, h2, h3⟩ := h a List.mem_cons_self
    have ih := lcF_eq hc l fun x hx => h x (List.mem_cons_of_mem _ hx)
    rw [List.map_cons]
    unfold lcF
    rw [h1]
    simp only
    rw [h2]
    cases hb : b a with
    | false => simp only [hc, if_true]; rw [ih]; simp [hb]
    | true =>
      obtain ⟨h4, h5⟩ := h3 hb
      simp only
      rw [h4]
      simp only [h5, hc, and_self, if_true]
      rw [ih]
      simp [hb]
theorem eLc_eq {α : Type} {it : IE} {chk : Mem → Prop} {t : TgD} {q : ET} {f : EE} {vs : List Nat} {sd : Sl} {μ : Mem} {ds : List D} (l : List α) (e : α → D) (b : α → Bool) (g : α → D) (hit : it sd μ = some (.ok (ds, chk), μ)) (hds : ds = l.map e)
    (hl : l.length ≤ 100000) (hc : chk μ) (h : ∀ a ∈ l, ∃ sd1, t (wipeD sd vs) μ (e a) = some (sd1, μ) ∧ q sd1 μ = some (.ok (b a), μ) ∧ (b a = true → f sd1 μ = some (.ok (g a), μ) ∧ notNew (g a) = true)) :
    eLc it t q f vs sd μ = some (.ok (.new ((l.filter b).map g)), μ) := by
  unfold eLc
  rw [hit, hds]
  simp only
  rw [if_pos (by rw [List.length_map]; exact le_size hl), lcF_eq hc l h]
  rfl
/-- no test -/
theorem eLc_all {α : Type} {it : IE} {chk : Mem → Prop} {t : TgD} {f : EE} {vs : List Nat} {sd : Sl} {μ : Mem} {ds : List D} (l : List α) (e g : α → D) (hit : it sd μ = some (.ok (ds, chk), μ)) (hds : ds = l.map e)
    (hl : l.length ≤ 100000) (hc : chk μ) (h : ∀ a ∈ l, ∃ sd1, t (wipeD sd vs) μ (e a) = some (sd1, μ) ∧ f sd1 μ = some (.ok (g a), μ) ∧ notNew (g a) = true) :
    eLc it t qYes f vs sd μ = some (.ok (.new (l.map g)), μ) := by
  have z := eLc_eq (q := qYes) (f := f) l e (fun _ => true) g hit hds hl hc fun a ha => let ⟨sd1, h1, h2⟩ := h a ha; ⟨sd1, h1, rfl, fun _ => h2⟩
  rw [z, List.filter_eq_self.mpr (fun _ _ => rfl)]
/-! ### loops -/
/-- a loop whose body goes on, whatever it does, or hands back -/
theorem loop_inv {α : Type} {chk : Mem → Prop} {t : TgD} {b : SS} (e : α → D) (I : List α → Sl → Mem → Prop) (R : Flow → Prop) : ∀ (l done : List α) (sd : Sl) (μ : Mem), I done sd μ →
    (∀ done x rest sd μ, l = done ++ x :: rest → I done sd μ → False) ∨ True → 
    (∀ (dn : List α) (x : α) (sd : Sl) (μ : Mem), x ∈ l → I dn sd μ → ∃ sd1 μ1, t sd μ (e x) = some (sd1, μ1) ∧
      ((∃ sd2 μ2, b sd1 μ1 = some (.nx, sd2, μ2) ∧ chk μ2 ∧ I (dn ++ [x]) sd2 μ2) ∨ ∃ d sd2 μ2, b sd1 μ1 = some (.ret d, sd2, μ2) ∧ R (.ret d))) →
    (∃ sd2 μ2, loopF chk t b (l.map e) sd μ = some (.nx, sd2, μ2) ∧ I (done ++ l) sd2 μ2) ∨ ∃ d sd2 μ2, loopF chk t b (l.map e) sd μ = some (.ret d, sd2, μ2) ∧ R (.ret d)
  | [], done, sd, μ, h0, _, _ => .inl ⟨sd, μ, rfl, by rw [List.append_nil]; exact h0⟩
  | x :: l, done, sd, μ, h0, _, h => by
    obtain ⟨sd1, μ1, h1, h2⟩ := h done x sd μ List.mem_cons_self h0
    rw [List.map_cons]
    unfold loopF
    rw [h1]
    simp only
    rcases h2 with ⟨sd2, μ2, h3, h4, h5⟩ | ⟨d, sd2, μ2, h3, h4⟩
    · rw [h3]
      simp only [h4, if_true]
      have ih := loop_inv e I R l (done ++ [x]) sd2 μ2 h5 (.inr trivial) fun dn y sd μ hy => h dn y sd μ (List.mem_cons_of_mem _ hy)
      rw [List.append_assoc, List.singleton_append] at ih
      exact ih
    · rw [h3]
      exact .inr ⟨d, sd2, μ2, rfl, h4⟩
/-- a loop that always goes on -/
theorem loop_nx {α : Type} {chk : Mem → Prop} {t : TgD} {b : SS} (e : α → D) (I : List α → Sl → Mem → Prop) : ∀ (l done : List α) (sd : Sl) (μ : Mem), I done sd μ →
    (∀ (dn : List α) (x : α) (rest : List α) (sd : Sl) (μ : Mem), done ++ l = dn ++ x :: rest → I dn sd μ → ∃ sd1 μ1, t sd μ (e x) = some (sd1, μ1) ∧ ∃ sd2 μ2, b sd1 μ1 = some (.nx, sd2, μ2) ∧ chk μ2 ∧ I (dn ++ [x]) sd2 μ2) →
    ∃ sd2 μ2, loopF chk t b (l.map e) sd μ = some (.nx, sd2, μ2) ∧ I (done ++ l) sd2 μ2
  | [], done, sd, μ, h0, _ => ⟨sd, μ, rfl, by rw [List.append_nil]; exact h0⟩
  | x :: l, done, sd, μ, h0, h => by
    obtain ⟨sd1, μ1, h1, sd2, μ2, h3, h4, h5⟩ := h done x l sd μ rfl h0
    rw [List.map_cons]
    unfold loopF
    rw [h1]
    simp only
    rw [h3]
    simp only [h4, if_true]
    have ih := loop_nx e I l (done ++ [x]) sd2 μ2 h5 fun dn y rest sd μ hy => h dn y rest sd μ (by rw [← hy, List.append_assoc, List.singleton_append])
    rw [List.append_assoc, List.singleton_append] at ih
    exact ih
theorem sFor_of {it : IE} {t : TgD} {b : SS} {sd : Sl} {μ : Mem} {ds : List D} {chk : Mem → Prop} (h : it sd μ = some (.ok (ds, chk), μ)) : sFor it t b sd μ = loopF chk t b ds sd μ := by unfold sFor; rw [h]
theorem sSeq_of {f g : SS} {sd sd1 : Sl} {μ μ1 : Mem} (h : f sd μ = some (.nx, sd1, μ1)) : sSeq f g sd μ = g sd1 μ1 := by unfold sSeq; rw [h]
theorem sSeq_ret {f g : SS} {sd sd1 : Sl} {μ μ1 : Mem} {d : D} (h : f sd μ = some (.ret d, sd1, μ1)) : sSeq f g sd μ = some (.ret d, sd1, μ1) := by unfold sSeq; rw [h]
theorem sIf_t {t : ET} {a b : SS} {sd : Sl} {μ μ1 : Mem} {r : SR} (h : t sd μ = some (.ok true, μ1)) (q : a sd μ1 = r) : sIf t a b sd μ = r := by unfold sIf; rw [h]; exact q
theorem sIf_f {t : ET} {a b : SS} {sd : Sl} {μ μ1 : Mem} {r : SR} (h : t sd μ = some (.ok false, μ1)) (q : b sd μ1 = r) : sIf t a b sd μ = r := by unfold sIf; rw [h]; exact q
/-! ### zip, range -/
theorem range0 (n : Nat) : rangeD 0 n = (List.range n).map fun i : Nat => D.int i := by unfold rangeD; simp
theorem zip_map {α β : Type} (e : α → D) (e' : β → D) : ∀ (xs : List α) (ys : List β), zipD (xs.map e) (ys.map e') = (xs.zip ys).map fun p => D.tup [e p.1, e' p.2] := by
  intro xs
  induction xs with
  | nil => intro ys; rfl
  | cons x xs ih =>
    intro ys
    cases ys with
    | nil => rfl
    | cons y ys =>
      show D.tup [e x, e' y] :: zipD (xs.map e) (ys.map e') = _
      rw [ih ys]
      rfl
/-! ### == of plain things -/
theorem eq_of {μ : Mem} {n : Bool} {x y : D} {p q : PyData} (h1 : toPm μ x = some p) (h2 : toPm μ y = some q) (s1 : SeqAt.shaped p = true) (s2 : SeqAt.shaped q = true) : gEqD n μ x y = some (.bl (if n then !PyData.eqv p q else PyData.eqv p q)) := by
  unfold gEqD
  rw [h1, h2]
  simp [s1, s2]
theorem sh_int (i : Int) : SeqAt.shaped (.int i) = true := by simp [SeqAt.shaped, PyData.canLay0, PyData.depth]
@[simp] theorem eq_int (μ : Mem) (n : Bool) (i j : Int) : gEqD n μ (.int i) (.int j) = some (.bl (if n then !decide (i = j) else decide (i = j))) := by
  rw [eq_of (p := .int i) (q := .int j) rfl rfl (sh_int i) (sh_int j)]
  simp [PyData.eqv]
  rfl
@[simp] theorem eq_bl (μ : Mem) (n : Bool) (i j : Bool) : gEqD n μ (.bl i) (.bl j) = some (.bl (if n then !decide (i = j) else decide (i = j))) := by
  cases i <;> cases j <;> cases n <;> rfl
theorem gIx_int {μ : Mem} {x : D} {ds : List D} {i : Int} {d : D} (hx : x = .tup ds ∨ lsAny μ x = some ds) (hi : L2.atI ds i = some d) (hn : ∀ es, d ≠ .new es) : gIx μ x (.int i) = some d := by
  have hd : itemD (L2.atI ds i) = some d := by
    rw [hi]
    cases d <;> first | rfl | exact absurd rfl (hn _)
  rcases hx with rfl | hx
  · show (itemD (L2.atI ds i)).or _ = _
    rw [hd]
    rfl
  · unfold gIx
    have h1 : gIxL μ x (.int i) = some d := by
      show ((lsAny μ x).bind fun ds => itemD (L2.atI ds i)) = some d
      rw [hx]
      exact hd
    have h2 : gIxT μ x (.int i) = none := by
      cases x <;> first | rfl | (exact absurd hx (by simp [lsAny, isLst]))
    rw [h2, h1]
    rfl
end DL
namespace DL
open PySem PySem.Spec PyProof.Rows L2
@[simp] theorem sSeq_e (f g : SS) (sd : Sl) (μ : Mem) : sSeq f g sd μ = match f sd μ with
  | some (.nx, sd1, μ1) => g sd1 μ1
  | r => r := rfl
@[simp] theorem sSkip_e (sd : Sl) (μ : Mem) : sSkip sd μ = some (.nx, sd, μ) := rfl
@[simp] theorem sBreak_e (sd : Sl) (μ : Mem) : sBreak sd μ = some (.brk, sd, μ) := rfl
@[simp] theorem sCont_e (sd : Sl) (μ : Mem) : sCont sd μ = some (.ct, sd, μ) := rfl
@[simp] theorem sIf_e (t : ET) (a b : SS) (sd : Sl) (μ : Mem) : sIf t a b sd μ = match t sd μ with
  | none => none
  | some (.error e, μ1) => some (.exc e, sd, μ1)
  | some (.ok true, μ1) => a sd μ1
  | some (.ok false, μ1) => b sd μ1 := rfl
@[simp] theorem sAsg_e (f : EE) (t : TgD) (sd : Sl) (μ : Mem) : sAsg f t sd μ = match f sd μ with
  | none => none
  | some (.error e, μ1) => some (.exc e, sd, μ1)
  | some (.ok x, μ1) => match t sd μ1 x with
    | none => none
    | some (sd2, μ2) => some (.nx, sd2, μ2) := by
  unfold sAsg bS
  rcases f sd μ with _ | ⟨_ | x, m⟩ <;> try rfl
  dsimp only
  cases t sd m x <;> rfl
@[simp] theorem sRet_e (f : EE) (sd : Sl) (μ : Mem) : sRet f sd μ = match f sd μ with
  | none => none
  | some (.error e, μ1) => some (.exc e, sd, μ1)
  | some (.ok x, μ1) => match outD μ1 x with
    | none => none
    | some d => some (.ret d, sd, μ1) := by
  unfold sRet bS
  rcases f sd μ with _ | ⟨_ | x, m⟩ <;> try rfl
  dsimp only
  cases outD m x <;> rfl
@[simp] theorem sDrop_e (f : EE) (sd : Sl) (μ : Mem) : sDrop f sd μ = match f sd μ with
  | none => none
  | some (.error e, μ1) => some (.exc e, sd, μ1)
  | some (.ok x, μ1) => some (.nx, sd, μ1) := rfl
@[simp] theorem eC_e (d : D) (sd : Sl) (μ : Mem) : eC d sd μ = some (.ok d, μ) := rfl
@[simp] theorem eV_e (i : Nat) (sd : Sl) (μ : Mem) : eV i sd μ = match sd[i]? with
  | some (some (.new _)) => none
  | some (some d) => some (.ok d, μ)
  | _ => none := rfl
@[simp] theorem eOwn_e (f : EE) (sd : Sl) (μ : Mem) : eOwn f sd μ = match f sd μ with
  | some (.ok (.new ds), μ1) => some (.ok (.ref μ1.length), μ1 ++ [.lst ds])
  | r => r := rfl
@[simp] theorem eBin_e (g : Mem → D → D → Option D) (fa fb : EE) (sd : Sl) (μ : Mem) : eBin g fa fb sd μ = match fa sd μ with
  | none => none
  | some (.error e, μ1) => some (.error e, μ1)
  | some (.ok x, μ1) => match fb sd μ1 with
    | none => none
    | some (.error e, μ2) => some (.error e, μ2)
    | some (.ok y, μ2) => match g μ2 x y with
      | none => none
      | some d => some (.ok d, μ2) := by
  unfold eBin bE
  rcases fa sd μ with _ | ⟨_ | x, m⟩ <;> try rfl
  dsimp only
  rcases fb sd m with _ | ⟨_ | y, m2⟩ <;> try rfl
  dsimp only
  cases g m2 x y <;> rfl
@[simp] theorem eUn_e (g : Mem → D → Option D) (fa : EE) (sd : Sl) (μ : Mem) : eUn g fa sd μ = match fa sd μ with
  | none => none
  | some (.error e, μ1) => some (.error e, μ1)
  | some (.ok x, μ1) => match g μ1 x with
    | none => none
    | some d => some (.ok d, μ1) := by
  unfold eUn bE
  rcases fa sd μ with _ | ⟨_ | x, m⟩ <;> try rfl
  dsimp only
  cases g m x <;> rfl
@[simp] theorem eNil_e (sd : Sl) (μ : Mem) : eNil sd μ = some (.ok [], μ) := rfl
@[simp] theorem eCons_e (f : EE) (g : EA) (sd : Sl) (μ : Mem) : eCons f g sd μ = match f sd μ with
  | none => none
  | some (.error e, μ1) => some (.error e, μ1)
  | some (.ok x, μ1) => match g sd μ1 with
    | none => none
    | some (.error e, μ2) => some (.error e, μ2)
    | some (.ok ds, μ2) => some (.ok (x :: ds), μ2) := by
  unfold eCons bE
  rcases f sd μ with _ | ⟨_ | x, m⟩ <;> try rfl
  dsimp only
  rcases g sd m with _ | ⟨_ | y, m2⟩ <;> rfl
@[simp] theorem eTup_e (g : EA) (sd : Sl) (μ : Mem) : eTup g sd μ = match g sd μ with
  | none => none
  | some (.error e, μ1) => some (.error e, μ1)
  | some (.ok ds, μ1) => if ds.length ≤ sizeLine then some (.ok (.tup ds), μ1) else none := by
  unfold eTup bE
  rcases g sd μ with _ | ⟨_ | x, m⟩ <;> rfl
@[simp] theorem eLst_e (g : EA) (sd : Sl) (μ : Mem) : eLst g sd μ = match g sd μ with
  | none => none
  | some (.error e, μ1) => some (.error e, μ1)
  | some (.ok ds, μ1) => if ds.length ≤ sizeLine then some (.ok (.new ds), μ1) else none := by
  unfold eLst bE
  rcases g sd μ with _ | ⟨_ | x, m⟩ <;> rfl
@[simp] theorem eCB_e (gg : Mem → List D → Option D) (g : EA) (sd : Sl) (μ : Mem) : eCB gg g sd μ = match g sd μ with
  | none => none
  | some (.error e, μ1) => some (.error e, μ1)
  | some (.ok ds, μ1) => match gg μ1 ds with
    | none => none
    | some d => some (.ok d, μ1) := by
  unfold eCB bE
  rcases g sd μ with _ | ⟨_ | x, m⟩ <;> try rfl
  dsimp only
  cases gg m x <;> rfl
@[simp] theorem eIf_e (t : ET) (fa fb : EE) (sd : Sl) (μ : Mem) : eIf t fa fb sd μ = match t sd μ with
  | none => none
  | some (.error e, μ1) => some (.error e, μ1)
  | some (.ok true, μ1) => fa sd μ1
  | some (.ok false, μ1) => fb sd μ1 := by
  unfold eIf bE
  rcases t sd μ with _ | ⟨_ | x, m⟩ <;> try rfl
  cases x <;> rfl
@[simp] theorem eAnd_e (fa fb : EE) (sd : Sl) (μ : Mem) : eAnd fa fb sd μ = match fa sd μ with
  | some (.ok (.bl true), μ1) => fb sd μ1
  | some (.ok (.bl false), μ1) => some (.ok (.bl false), μ1)
  | some (.error e, μ1) => some (.error e, μ1)
  | _ => none := by
  unfold eAnd bE
  rcases fa sd μ with _ | ⟨_ | x, m⟩ <;> try rfl
  cases x <;> try rfl
  rename_i b; cases b <;> rfl
@[simp] theorem eOr_e (fa fb : EE) (sd : Sl) (μ : Mem) : eOr fa fb sd μ = match fa sd μ with
  | some (.ok (.bl true), μ1) => some (.ok (.bl true), μ1)
  | some (.ok (.bl false), μ1) => fb sd μ1
  | some (.error e, μ1) => some (.error e, μ1)
  | _ => none := by
  unfold eOr bE
  rcases fa sd μ with _ | ⟨_ | x, m⟩ <;> try rfl
  cases x <;> try rfl
  rename_i b; cases b <;> rfl
@[simp] theorem eNot_e (fa : EE) (sd : Sl) (μ : Mem) : eNot fa sd μ = match fa sd μ with
  | some (.ok (.bl b), μ1) => some (.ok (.bl (!b)), μ1)
  | some (.error e, μ1) => some (.error e, μ1)
  | _ => none := by
  unfold eNot bE
  rcases fa sd μ with _ | ⟨_ | x, m⟩ <;> try rfl
  cases x <;> rfl
@[simp] theorem qYes_e (sd : Sl) (μ : Mem) : qYes sd μ = some (.ok true, μ) := rfl
@[simp] theorem qB_e (fa : EE) (sd : Sl) (μ : Mem) : qB fa sd μ = match fa sd μ with
  | some (.ok (.bl b), μ1) => some (.ok b, μ1)
  | some (.error e, μ1) => some (.error e, μ1)
  | _ => none := by
  unfold qB bE
  rcases fa sd μ with _ | ⟨_ | x, m⟩ <;> try rfl
  cases x <;> rfl
@[simp] theorem qTru_e (fa : EE) (sd : Sl) (μ : Mem) : qTru fa sd μ = match fa sd μ with
  | none => none
  | some (.error e, μ1) => some (.error e, μ1)
  | some (.ok x, μ1) => match truD μ1 x with
    | none => none
    | some b => some (.ok b, μ1) := by
  unfold qTru bE
  rcases fa sd μ with _ | ⟨_ | x, m⟩ <;> try rfl
  dsimp only
  cases truD m x <;> rfl
@[simp] theorem qNot_e (t : ET) (sd : Sl) (μ : Mem) : qNot t sd μ = match t sd μ with
  | none => none
  | some (.error e, μ1) => some (.error e, μ1)
  | some (.ok b, μ1) => some (.ok (!b), μ1) := by
  unfold qNot bE
  rcases t sd μ with _ | ⟨_ | x, m⟩ <;> rfl
@[simp] theorem qAnd_e (t u : ET) (sd : Sl) (μ : Mem) : qAnd t u sd μ = match t sd μ with
  | none => none
  | some (.error e, μ1) => some (.error e, μ1)
  | some (.ok true, μ1) => u sd μ1
  | some (.ok false, μ1) => some (.ok false, μ1) := by
  unfold qAnd bE
  rcases t sd μ with _ | ⟨_ | x, m⟩ <;> try rfl
  cases x <;> rfl
@[simp] theorem qOr_e (t u : ET) (sd : Sl) (μ : Mem) : qOr t u sd μ = match t sd μ with
  | none => none
  | some (.error e, μ1) => some (.error e, μ1)
  | some (.ok true, μ1) => some (.ok true, μ1)
  | some (.ok false, μ1) => u sd μ1 := by
  unfold qOr bE
  rcases t sd μ with _ | ⟨_ | x, m⟩ <;> try rfl
  cases x <;> rfl
@[simp] theorem eCall_e (m : Mir) (np : Nat) (a : EA) (sd : Sl) (μ : Mem) : eCall m np a sd μ = match a sd μ with
  | none => none
  | some (.error e, μ1) => some (.error e, μ1)
  | some (.ok ds, μ1) => match argsD μ1 ds with
    | none => none
    | some ds' => if ds'.length = np then (match m ds' with
      | none => none
      | some (.ok d) => some (.ok d, μ1)
      | some (.error e) => some (.error e, μ1)) else none := by
  unfold eCall bE
  rcases a sd μ with _ | ⟨_ | x, m⟩ <;> try rfl
  dsimp only
  cases argsD m x <;> rfl
@[simp] theorem eSl_e (g : Mem → D → Option Int → Option Int → Option D) (f : EE) (l h : EO) (sd : Sl) (μ : Mem) : eSl g f l h sd μ = match f sd μ with
  | none => none
  | some (.error e, μ1) => some (.error e, μ1)
  | some (.ok x, μ1) => match l sd μ1 with
    | none => none
    | some (.error e, μ2) => some (.error e, μ2)
    | some (.ok i, μ2) => match h sd μ2 with
      | none => none
      | some (.error e, μ3) => some (.error e, μ3)
      | some (.ok j, μ3) => match g μ3 x i j with
        | none => none
        | some d => some (.ok d, μ3) := by
  unfold eSl bE
  rcases f sd μ with _ | ⟨_ | x, m⟩ <;> try rfl
  dsimp only
  rcases l sd m with _ | ⟨_ | i, m2⟩ <;> try rfl
  dsimp only
  rcases h sd m2 with _ | ⟨_ | j, m3⟩ <;> try rfl
  dsimp only
  cases g m3 x i j <;> rfl
@[simp] theorem oNone_e (sd : Sl) (μ : Mem) : oNone sd μ = some (.ok none, μ) := rfl
@[simp] theorem oSome_e (f : EE) (sd : Sl) (μ : Mem) : oSome f sd μ = match f sd μ with
  | some (.ok (.int i), μ1) => some (.ok (some i), μ1)
  | some (.error e, μ1) => some (.error e, μ1)
  | _ => none := by
  unfold oSome bE
  rcases f sd μ with _ | ⟨_ | x, m⟩ <;> try rfl
  cases x <;> rfl
@[simp] theorem eMu_e (g : Mem → D → List D → Option (D × Mem)) (f : EE) (a : EA) (sd : Sl) (μ : Mem) : eMu g f a sd μ = match f sd μ with
  | none => none
  | some (.error e, μ1) => some (.error e, μ1)
  | some (.ok x, μ1) => match isLst μ1 x with
    | none => none
    | some _ => match a sd μ1 with
      | none => none
      | some (.error e, μ2) => some (.error e, μ2)
      | some (.ok ds, μ2) => match g μ2 x ds with
        | none => none
        | some (d, μ3) => some (.ok d, μ3) := by
  unfold eMu bE
  rcases f sd μ with _ | ⟨_ | x, m⟩ <;> try rfl
  dsimp only
  cases isLst m x <;> try rfl
  rename_i w; dsimp only [Option.bind]
  rcases a sd m with _ | ⟨_ | ds, m2⟩ <;> try rfl
  dsimp only
  cases g m2 x ds <;> rfl
@[simp] theorem iSeq_e (f : EE) (sd : Sl) (μ : Mem) : iSeq f sd μ = match f sd μ with
  | none => none
  | some (.error e, μ1) => some (.error e, μ1)
  | some (.ok d, μ1) => match srcD μ1 d with
    | none => none
    | some z => some (.ok z, μ1) := by
  unfold iSeq bE
  rcases f sd μ with _ | ⟨_ | x, m⟩ <;> try rfl
  dsimp only
  cases srcD m x <;> rfl
@[simp] theorem gD_e (i : Nat) (sd : Sl) (μ : Mem) (d : D) : gD i sd μ d = match d with
  | .new _ => none
  | d => some (sd.set i (some d), μ) := rfl
@[simp] theorem gTup_e (u : TgsD) (sd : Sl) (μ : Mem) (ds : List D) : gTupD u sd μ (.tup ds) = u sd μ ds := rfl
@[simp] theorem gNil_e (sd : Sl) (μ : Mem) : gNilD sd μ [] = some (sd, μ) := rfl
@[simp] theorem gCons_e (t : TgD) (u : TgsD) (sd : Sl) (μ : Mem) (d : D) (ds : List D) : gConsD t u sd μ (d :: ds) = match t sd μ d with
  | none => none
  | some (sd1, μ1) => u sd1 μ1 ds := by
  show ((t sd μ d).bind fun z => u z.1 z.2 ds) = _
  cases t sd μ d <;> rfl
@[simp] theorem c1_e (g : Mem → D → Option D) (μ : Mem) (d : D) : c1 g μ [d] = g μ d := rfl
@[simp] theorem c2_e (g : Mem → D → D → Option D) (μ : Mem) (d e : D) : c2 g μ [d, e] = g μ d e := rfl
@[simp] theorem out_int (μ : Mem) (i : Int) : outD μ (.int i) = some (.int i) := rfl
@[simp] theorem out_bl (μ : Mem) (i : Bool) : outD μ (.bl i) = some (.bl i) := rfl
@[simp] theorem out_non (μ : Mem) : outD μ .non = some .non := rfl
@[simp] theorem neg_int (μ : Mem) (i : Int) : gNeg μ (.int i) = some (.int (-i)) := rfl
theorem out_tup {μ : Mem} {ds : List D} (h : plainL ds = true) : outD μ (.tup ds) = some (.tup ds) := by
  show (if plainL ds = true then _ else _) = _
  rw [if_pos h]
theorem plainL_int (l : List Int) : plainL (l.map D.int) = true := by
  induction l with
  | nil => rfl
  | cons x l ih => exact ih
theorem atI_nat {α : Type} (l : List α) (k : Nat) (h : k < l.length) : L2.atI l (k : Int) = some (l[k]'h) := by
  unfold L2.atI L2.ixN
  rw [if_pos (by omega), if_pos (by omega)]
  simp [h]
theorem ix_map {α : Type} {μ : Mem} {x : D} {l : List α} {e : α → D} {i : Int} (d : α) (hx : x = .tup (l.map e) ∨ lsAny μ x = some (l.map e)) (h0 : 0 ≤ i) (h : i < l.length) (hn : ∀ a es, e a ≠ .new es) : gIx μ x (.int i) = some (e (l.getD i.toNat d)) := by
  obtain ⟨k, rfl⟩ := Int.eq_ofNat_of_zero_le h0
  have hk : k < l.length := by omega
  refine gIx_int hx ?_ (hn _)
  rw [atI_nat _ k (by simpa using hk)]
  simp [List.getD, hk]
theorem ix_int {μ : Mem} {x : D} {l : List Int} {i : Int} (hx : x = .tup (l.map D.int) ∨ lsAny μ x = some (l.map D.int)) (h0 : 0 ≤ i) (h : i < l.length) : gIx μ x (.int i) = some (.int (l.getD i.toNat 0)) :=
  ix_map 0 hx h0 h (fun _ _ e => by cases e)
/-! sums of ints -/
@[simp] theorem add_int (μ : Mem) (i j : Int) : gAdd μ (.int i) (.int j) = some (.int (i + j)) := rfl
@[simp] theorem sub_int (μ : Mem) (i j : Int) : gSubI μ (.int i) (.int j) = some (.int (i - j)) := rfl
theorem mul_int {μ : Mem} {i j : Int} (h : CMulW i j) : gMul μ (.int i) (.int j) = some (.int (i * j)) := by
  unfold gMul gMulI gI
  simp only [when_t h, Option.some_or]
theorem add_tup {μ : Mem} {ds es : List D} (h : ds.length + es.length ≤ 100000) : gAdd μ (.tup ds) (.tup es) = some (.tup (ds ++ es)) := by
  have h2 : ds.length + es.length ≤ sizeLine := le_size h
  unfold gAdd
  have : gAddI μ (.tup ds) (.tup es) = none := rfl
  rw [this]
  show (Option.or (if ds.length + es.length ≤ sizeLine then _ else _) _) = _
  rw [if_pos h2]
  rfl
theorem mul_tup {μ : Mem} {ds : List D} {k : Int} (h : k ≤ 1000) (h0 : 0 ≤ k) (hl : ds.length ≤ 1000) : gMul μ (.tup ds) (.int k) = some (.tup (List.replicate k.toNat ds).flatten) := by
  unfold gMul
  have : gMulI μ (.tup ds) (.int k) = none := rfl
  rw [this]
  show (Option.or (when_ _ _) _) = _
  rw [when_t ⟨h, hl, by omega⟩]
  rfl
@[simp] theorem flat_rep {α : Type} (n : Nat) (x : α) : (List.replicate n [x]).flatten = List.replicate n x := by
  induction n with
  | zero => rfl
  | succ n ih => simp [List.replicate_succ, ih]
@[simp] theorem sz0 : 0 ≤ sizeLine := le_size (by decide)
@[simp] theorem sz1 : 1 ≤ sizeLine := le_size (by decide)
@[simp] theorem sz2 : 2 ≤ sizeLine := le_size (by decide)
@[simp] theorem sz3 : 3 ≤ sizeLine := le_size (by decide)
@[simp] theorem sz4 : 4 ≤ sizeLine := le_size (by decide)
@[simp] theorem sz5 : 5 ≤ sizeLine := le_size (by decide)
@[simp] theorem sz6 : 6 ≤ sizeLine := le_size (by decide)
@[simp] theorem sz7 : 7 ≤ sizeLine := le_size (by decide)
@[simp] theorem sz8 : 8 ≤ sizeLine := le_size (by decide)
@[simp] theorem sz9 : 9 ≤ sizeLine := le_size (by decide)
@[simp] theorem sz10 : 10 ≤ sizeLine := le_size (by decide)
@[simp] theorem sz11 : 11 ≤ sizeLine := le_size (by decide)
@[simp] theorem sz12 : 12 ≤ sizeLine := le_size (by decide)
end DL
set_option Elab.async false
set_option linter.all false
set_option maxRecDepth 100000
namespace DL
open PySem PySem.Spec PyProof.Rows L2
theorem iR1_of {f : EA} {sd : Sl} {μ : Mem} {n : Nat} (h : f sd μ = some (.ok [.int n], μ)) (hn : n ≤ 100000) : iR1 f sd μ = some (.ok ((List.range n).map (fun i : Nat => D.int i), fun _ => True), μ) := by
  unfold iR1
  rw [h]
  simp only [bE_ok, one, intD, Option.bind_some]
  rw [when_t ⟨by omega, by omega⟩, Int.toNat_natCast, range0]
theorem add_new {μ : Mem} {x y : D} {ds es : List D} (hx : isLst μ x = some ds) (hy : isLst μ y = some es) (h : ds.length + es.length ≤ 100000) : gAdd μ x y = some (.new (ds ++ es)) := by
  have h1 : gAddI μ x y = none := by cases x <;> first | rfl | exact absurd hx (by simp [isLst])
  have h2 : gAddT μ x y = none := by cases x <;> first | rfl | exact absurd hx (by simp [isLst])
  unfold gAdd
  rw [h1, h2]
  show Option.or (gAddL μ x y) _ = _
  unfold gAddL
  rw [hx, hy]
  show Option.or (if ds.length + es.length ≤ sizeLine then _ else _) _ = _
  rw [if_pos (le_size h)]
  rfl
@[simp] theorem isl_new (μ : Mem) (ds : List D) : isLst μ (.new ds) = some ds := rfl
@[simp] theorem isl_lst (μ : Mem) (ds : List D) : isLst μ (.lst ds) = some ds := rfl
@[simp] theorem lsA_new (μ : Mem) (ds : List D) : lsAny μ (.new ds) = some ds := rfl
@[simp] theorem lsA_lst (μ : Mem) (ds : List D) : lsAny μ (.lst ds) = some ds := rfl
@[simp] theorem lsA_lck (μ : Mem) (ds : List D) : lsAny μ (.lck ds) = some ds := rfl
@[simp] theorem lsA_ref (μ : Mem) (n : Nat) : lsAny μ (.ref n) = isLst μ (.ref n) := rfl
@[simp] theorem isl_ref (μ : Mem) (n : Nat) : isLst μ (.ref n) = match μ[n]? with
  | some (.lst ds) => some ds
  | _ => none := rfl
@[simp] theorem tup_new (μ : Mem) (ds : List D) : gTuple μ [.new ds] = some (.tup ds) := rfl
@[simp] theorem tup_lst (μ : Mem) (ds : List D) : gTuple μ [.lst ds] = some (.tup ds) := rfl
@[simp] theorem tup_tup (μ : Mem) (ds : List D) : gTuple μ [.tup ds] = some (.tup ds) := rfl
@[simp] theorem len_tup (μ : Mem) (ds : List D) : gLen μ [.tup ds] = some (.int ds.length) := rfl
@[simp] theorem len_new (μ : Mem) (ds : List D) : gLen μ [.new ds] = some (.int ds.length) := rfl
@[simp] theorem len_lst (μ : Mem) (ds : List D) : gLen μ [.lst ds] = some (.int ds.length) := rfl
@[simp] theorem len_lck (μ : Mem) (ds : List D) : gLen μ [.lck ds] = some (.int ds.length) := rfl
theorem tup_any {μ : Mem} {x : D} {ds : List D} (h : lsAny μ x = some ds) : gTuple μ [x] = some (.tup ds) := by
  show g1Tuple μ x = _
  unfold g1Tuple
  cases x <;> simp only [] <;> first | (rw [h]; rfl) | exact absurd h (by simp [lsAny, isLst])
theorem len_any {μ : Mem} {x : D} {ds : List D} (h : lsAny μ x = some ds) : gLen μ [x] = some (.int ds.length) := by
  show g1Len μ x = _
  unfold g1Len sqAny
  cases x <;> simp only [] <;> first | (rw [h]; rfl) | exact absurd h (by simp [lsAny, isLst])
theorem add_nn {μ : Mem} {ds es : List D} (h : ds.length + es.length ≤ 100000) : gAdd μ (.new ds) (.new es) = some (.new (ds ++ es)) := add_new rfl rfl h
theorem okAL_map {α : Type} {e : α → D} (h : ∀ a, okA (e a) = true) (l : List α) : okAL (l.map e) = true := by
  induction l with
  | nil => rfl
  | cons x l ih => show (okA (e x) && okAL (l.map e)) = true; rw [h, ih]; rfl
theorem plainL_map {α : Type} {e : α → D} (h : ∀ a, plain (e a) = true) (l : List α) : plainL (l.map e) = true := by
  induction l with
  | nil => rfl
  | cons x l ih => show (plain (e x) && plainL (l.map e)) = true; rw [h, ih]; rfl
@[simp] theorem argsD_nil (μ : Mem) : argsD μ [] = some [] := rfl
@[simp] theorem argsD_cons (μ : Mem) (d : D) (ds : List D) : argsD μ (d :: ds) = match argD μ d with
  | none => none
  | some x => match argsD μ ds with
    | none => none
    | some xs => some (x :: xs) := by
  show ((argD μ d).bind fun x => (argsD μ ds).map fun xs => x :: xs) = _
  cases argD μ d with
  | none => rfl
  | some x => cases argsD μ ds <;> rfl
@[simp] theorem argD_int (μ : Mem) (i : Int) : argD μ (.int i) = some (.int i) := rfl
@[simp] theorem argD_bl (μ : Mem) (i : Bool) : argD μ (.bl i) = some (.bl i) := rfl
@[simp] theorem argD_non (μ : Mem) : argD μ .non = some .non := rfl
@[simp] theorem argD_str (μ : Mem) (z : Str) : argD μ (.str z) = some (.str z) := rfl
theorem argD_tup {μ : Mem} {ds : List D} (h : okAL ds = true) : argD μ (.tup ds) = some (.tup ds) := if_pos h
theorem argD_lck {μ : Mem} {ds : List D} (h : okAL ds = true) : argD μ (.lck ds) = some (.lck ds) := if_pos h
theorem argD_new {μ : Mem} {ds : List D} (h : okAL ds = true) : argD μ (.new ds) = some (.lst ds) := if_pos h
theorem argD_ref {μ : Mem} {n : Nat} {ds : List D} (hm : μ[n]? = some (.lst ds)) (h : okAL ds = true) : argD μ (.ref n) = some (.lst ds) := by
  unfold argD
  simp only [hm, h, if_true]
theorem out_ref {μ : Mem} {n : Nat} {ds : List D} (hm : μ[n]? = some (.lst ds)) (h : plainL ds = true) : outD μ (.ref n) = some (.new ds) := by
  unfold outD
  simp only [hm, h, if_true]
@[simp] theorem lt_int (μ : Mem) (i j : Int) : gLtI μ (.int i) (.int j) = some (.bl (decide (i < j))) := rfl
@[simp] theorem le_int (μ : Mem) (i j : Int) : gLeI μ (.int i) (.int j) = some (.bl (decide (i ≤ j))) := rfl
@[simp] theorem gt_int (μ : Mem) (i j : Int) : gGtI μ (.int i) (.int j) = some (.bl (decide (i > j))) := rfl
@[simp] theorem ge_int (μ : Mem) (i j : Int) : gGeI μ (.int i) (.int j) = some (.bl (decide (i ≥ j))) := rfl
theorem mod_int {μ : Mem} {i j : Int} (h : 0 < j) : gModI μ (.int i) (.int j) = some (.int (i % j)) := when_t h
theorem div_int {μ : Mem} {i j : Int} (h : CDivW i j) : gDivI μ (.int i) (.int j) = some (.int (i / j)) := when_t h
theorem pow_int {μ : Mem} {i j : Int} (h : CPow i j) : gPowI μ (.int i) (.int j) = some (.int (i ^ j.toNat)) := when_t h
@[simp] theorem abs_int (μ : Mem) (i : Int) : gAbs μ [.int i] = some (.int (if i < 0 then -i else i)) := rfl
@[simp] theorem int_int (μ : Mem) (i : Int) : gInt μ [.int i] = some (.int i) := rfl
@[simp] theorem tru_bl (μ : Mem) (b : Bool) : truD μ (.bl b) = some b := rfl
@[simp] theorem isN_int (μ : Mem) (n : Bool) (i : Int) : gIsN n μ (.int i) .non = some (.bl n) := by cases n <;> rfl
@[simp] theorem isN_bl (μ : Mem) (n : Bool) (i : Bool) : gIsN n μ (.bl i) .non = some (.bl n) := by cases n <;> rfl
@[simp] theorem isN_str (μ : Mem) (n : Bool) (i : Str) : gIsN n μ (.str i) .non = some (.bl n) := by cases n <;> rfl
@[simp] theorem isN_tup (μ : Mem) (n : Bool) (i : List D) : gIsN n μ (.tup i) .non = some (.bl n) := by cases n <;> rfl
@[simp] theorem isN_non (μ : Mem) (n : Bool) : gIsN n μ .non .non = some (.bl (!n)) := by cases n <;> rfl
@[simp] theorem isi_int_tup (μ : Mem) (i : Int) : gIsi μ [.int i, .ty "tuple"] = some (.bl false) := rfl
@[simp] theorem isi_int_int (μ : Mem) (i : Int) : gIsi μ [.int i, .ty "int"] = some (.bl true) := rfl
@[simp] theorem isi_int_bool (μ : Mem) (i : Int) : gIsi μ [.int i, .ty "bool"] = some (.bl false) := rfl
@[simp] theorem isi_int_str (μ : Mem) (i : Int) : gIsi μ [.int i, .ty "str"] = some (.bl false) := rfl
@[simp] theorem isi_bl_tup (μ : Mem) (i : Bool) : gIsi μ [.bl i, .ty "tuple"] = some (.bl false) := rfl
@[simp] theorem isi_bl_int (μ : Mem) (i : Bool) : gIsi μ [.bl i, .ty "int"] = some (.bl true) := rfl
@[simp] theorem isi_bl_bool (μ : Mem) (i : Bool) : gIsi μ [.bl i, .ty "bool"] = some (.bl true) := rfl
@[simp] theorem isi_bl_str (μ : Mem) (i : Bool) : gIsi μ [.bl i, .ty "str"] = some (.bl false) := rfl
@[simp] theorem isi_tup_tup (μ : Mem) (i : List D) : gIsi μ [.tup i, .ty "tuple"] = some (.bl true) := rfl
@[simp] theorem isi_tup_int (μ : Mem) (i : List D) : gIsi μ [.tup i, .ty "int"] = some (.bl false) := rfl
@[simp] theorem isi_str_tup (μ : Mem) (i : Str) : gIsi μ [.str i, .ty "tuple"] = some (.bl false) := rfl
@[simp] theorem isi_str_str (μ : Mem) (i : Str) : gIsi μ [.str i, .ty "str"] = some (.bl true) := rfl
@[simp] theorem isi_str_bool (μ : Mem) (i : Str) : gIsi μ [.str i, .ty "bool"] = some (.bl false) := rfl
@[simp] theorem isi_str_int (μ : Mem) (i : Str) : gIsi μ [.str i, .ty "int"] = some (.bl false) := rfl
@[simp] theorem src_tupE (μ : Mem) (ds : List D) : srcD μ (.tup ds) = some (ds, fun _ => True) := rfl
@[simp] theorem src_lckE (μ : Mem) (ds : List D) : srcD μ (.lck ds) = some (ds, fun _ => True) := rfl
@[simp] theorem src_lstE (μ : Mem) (ds : List D) : srcD μ (.lst ds) = some (ds, fun _ => True) := rfl
@[simp] theorem src_newE (μ : Mem) (ds : List D) : srcD μ (.new ds) = some (ds, fun _ => True) := rfl
theorem app_ref {μ : Mem} {n : Nat} {es : List D} {d : D} (h : μ[n]? = some (.lst es)) (hl : es.length ≤ 100000) (hd : notNew d = true) : muAppend μ (.ref n) [d] = some (.non, μ.set n (.lst (es ++ [d]))) := by
  have hs : es.length < sizeLine := Nat.lt_of_le_of_lt hl (by decide)
  unfold muAppend
  cases d with
  | new ds => cases hd
  | _ => simp only [h, hs, if_true]
@[simp] theorem eChain_e (g1 g2 : Mem → D → D → Option D) (fa fb fc : EE) (sd : Sl) (μ : Mem) : eChain g1 g2 fa fb fc sd μ = match fa sd μ with
  | none => none
  | some (.error e, μ1) => some (.error e, μ1)
  | some (.ok x, μ1) => match fb sd μ1 with
    | none => none
    | some (.error e, μ2) => some (.error e, μ2)
    | some (.ok y, μ2) => match g1 μ2 x y with
      | some (.bl true) => (match fc sd μ2 with
        | none => none
        | some (.error e, μ3) => some (.error e, μ3)
        | some (.ok z, μ3) => match g2 μ3 y z with
          | none => none
          | some d => some (.ok d, μ3))
      | some (.bl false) => some (.ok (.bl false), μ2)
      | _ => none := by
  unfold eChain bE
  rcases fa sd μ with _ | ⟨_ | x, m⟩ <;> try rfl
  dsimp only
  rcases fb sd m with _ | ⟨_ | y, m2⟩ <;> try rfl
  dsimp only
  cases g1 m2 x y with
  | none => rfl
  | some r =>
    cases r <;> try rfl
    rename_i b
    cases b <;> try rfl
    dsimp only [Option.bind, boolD]
    simp only [if_true]
    rcases fc sd m2 with _ | ⟨_ | z, m3⟩ <;> try rfl
    dsimp only
    cases g2 m3 y z <;> rfl
@[simp] theorem gSub_e (fo fi : EE) (sd : Sl) (μ : Mem) (d : D) : gSub fo fi sd μ d = match fo sd μ with
  | some (.ok x, μ1) => (match fi sd μ1 with
    | some (.ok y, μ2) => (match setM μ2 x y d with
      | none => none
      | some μ3 => some (sd, μ3))
    | _ => none)
  | _ => none := by
  unfold gSub
  rcases fo sd μ with _ | ⟨_ | x, m⟩ <;> try rfl
  dsimp only
  rcases fi sd m with _ | ⟨_ | y, m2⟩ <;> try rfl
  dsimp only
  cases setM m2 x y d <;> rfl
@[simp] theorem sAugS_e (fo fi : EE) (g : Mem → D → D → Option D) (f : EE) (sd : Sl) (μ : Mem) : sAugS fo fi g f sd μ = match fo sd μ with
  | none => none
  | some (.error e, μ1) => some (.exc e, sd, μ1)
  | some (.ok x, μ1) => match fi sd μ1 with
    | none => none
    | some (.error e, μ2) => some (.exc e, sd, μ2)
    | some (.ok y, μ2) => match (if posI y = true then gIxL μ2 x y else none) with
      | none => none
      | some old => match f sd μ2 with
        | none => none
        | some (.error e, μ3) => some (.exc e, sd, μ3)
        | some (.ok z, μ3) => match g μ3 old z with
          | none => none
          | some d => match setM μ3 x y d with
            | none => none
            | some μ4 => some (.nx, sd, μ4) := by
  unfold sAugS bS
  rcases fo sd μ with _ | ⟨_ | x, m⟩ <;> try rfl
  dsimp only
  rcases fi sd m with _ | ⟨_ | y, m2⟩ <;> try rfl
  dsimp only
  generalize (if posI y = true then gIxL m2 x y else none) = w
  cases w <;> try rfl
  rename_i old
  dsimp only
  rcases f sd m2 with _ | ⟨_ | z, m3⟩ <;> try rfl
  dsimp only
  cases g m3 old z <;> try rfl
  rename_i d
  dsimp only
  cases setM m3 x y d <;> rfl
theorem ixN_nat {n k : Nat} (h : k < n) : ixN n (k : Int) = some k := by
  unfold ixN
  rw [if_pos (by omega), if_pos (by omega), Int.toNat_natCast]
theorem set_ref {μ : Mem} {n k : Nat} {ds : List D} {d : D} (hm : μ[n]? = some (.lst ds)) (hk : k < ds.length) (hd : notNew d = true) : setM μ (.ref n) (.int k) d = some (μ.set n (.lst (ds.set k d))) := by
  unfold setM
  simp only [hm, hd, if_true, ixN_nat hk, Option.map_some]
theorem ixL_ref {μ : Mem} {n k : Nat} {l : List Int} (hm : μ[n]? = some (.lst (l.map D.int))) (hk : k < l.length) : gIxL μ (.ref n) (.int k) = some (.int (l.getD k 0)) := by
  show ((lsAny μ (.ref n)).bind fun ds => itemD (L2.atI ds k)) = _
  rw [lsA_ref, isl_ref, hm]
  show itemD (L2.atI (l.map D.int) k) = _
  rw [atI_nat _ k (by simpa using hk)]
  simp [itemD, List.getD, hk]
theorem mul_new {μ : Mem} {ds : List D} {k : Int} (h0 : 0 ≤ k) (h1 : k ≤ 1000) (h : ds.length ≤ 100) : gMul μ (.new ds) (.int k) = some (.new (List.replicate k.toNat ds).flatten) := by
  have h2 : ds.length * k.toNat ≤ sizeLine := le_size (Nat.le_trans (Nat.mul_le_mul h (show k.toNat ≤ 1000 by omega)) (by decide))
  unfold gMul
  rw [show gMulI μ (.new ds) (.int k) = none from rfl, show gMulT μ (.new ds) (.int k) = none from rfl, Option.none_or, Option.none_or]
  show when_ _ _ = _
  rw [when_t ⟨by omega, by omega, h2⟩]
theorem iZip_tup {f : EA} {sd : Sl} {μ : Mem} {ds es : List D} (h : f sd μ = some (.ok [.tup ds, .tup es], μ)) : iZip2 f sd μ = some (.ok (zipD ds es, fun _ => True ∧ True), μ) := by
  unfold iZip2
  rw [h]
  rfl
theorem sum_new (μ : Mem) (l : List Int) : gSum μ [.new (l.map D.int)] = some (.int l.sum) := by
  have key : ∀ l : List Int, allD intD (l.map D.int) = some l := fun l => by
    induction l with
    | nil => rfl
    | cons x l ih => show ((intD (D.int x)).bind fun i => (allD intD (l.map D.int)).map fun is => i :: is) = _; rw [ih]; rfl
  show ((allD intD (l.map D.int)).map fun is => D.int is.sum) = _
  rw [key]
  rfl
theorem all_new (μ : Mem) (l : List Bool) : gAll μ [.new (l.map D.bl)] = some (.bl (l.all id)) := by
  have key : ∀ l : List Bool, allD boolD (l.map D.bl) = some l := fun l => by
    induction l with
    | nil => rfl
    | cons x l ih => show ((boolD (D.bl x)).bind fun i => (allD boolD (l.map D.bl)).map fun is => i :: is) = _; rw [ih]; rfl
  show ((allD boolD (l.map D.bl)).map fun is => D.bl (is.all id)) = _
  rw [key]
  rfl
theorem cut1 (d : D) (ds : List D) : cutD (d :: ds) (some 1) none = ds := by
  unfold cutD HT.sIx
  simp
theorem sl_tup1 (μ : Mem) (d : D) (ds : List D) : gSl μ (.tup (d :: ds)) (some 1) none = some (.tup ds) := by
  show Option.or (some (D.tup (cutD (d :: ds) (some 1) none))) _ = _
  rw [cut1]
  rfl
end DL
set_option Elab.async false
set_option linter.all false
set_option maxRecDepth 100000
/-! DL, part x: an own exception's __init__ that begins by super().__init__(..). -/
namespace DLX
open PySem PySem.Spec PyProof.Rows PySem.W PySem.Calls L2 NdefX
section
variable {X : Cx} {pins : List (Addr × Obj)} {σ : L2.St} {H : Hp} {s : Shared} {a C u : Addr} {us : List Value} {A : Around} {E : Value → Shared → Prop} {Q : Value → Shared → Prop}
theorem mw_type : (Value.type "method-wrapper" == Value.type "method" || Value.type "method-wrapper" == Value.type "builtin_function_or_method" || Value.type "method-wrapper" == Value.type "method-wrapper") = true := by decide
/-- the bound built-in __init__, called on what is being made -/
theorem mw_run (T : OexC X.K C) (I : Inv X pins σ H s) (e : H a = some (exo a C none)) (hu : s.heap.get? u = some (kxs_mw "ValueError.__init__" a)) (hl : us.length ≤ sizeLine) (h : ∀ s', Inv X pins σ H s' → Q .none s') :
    wpAny (model X.prog X.w) A (call (.ref u) us) Q E s := by
  obtain ⟨c1, c2, c3, c4, c5, c6, c7, c8, c9, c10, c11, c12, c13, c14, c15, hC, hbm⟩ := T.cls
  obtain ⟨t1, ho⟩ := exo_at I.hok e
  obtain ⟨hp, gs, dr, tk, os⟩ := s
  have done : ∀ h', (∀ b o, b ≠ a → hp.get? b = some o → h'.get? b = some o) → h'.get? a = some (PySem.HandSPX.excO C hp.objs.size) → Q .none ⟨h', gs, dr, tk, os⟩ := fun h' k hx => by
    have J := I.write (t' := tk) (x := a) (e := a) (o := exo a C none) (by rw [e]; exact True.intro) (.inl rfl) k ⟨_, hx⟩ (exo_ok hx)
    have eu : upd H a (exo a C none) = H := funext fun b => by
      by_cases hb : b = a
      · subst hb; rw [upd_same, e]
      · exact upd_ne hb
    rw [eu] at J
    exact h _ J
  refine wpAny_call (codeAny_of_tree ?_)
  show wpAny _ A.in1 (callAny (.ref u) ⟨us, []⟩) _ _ _
  unfold callAny
  refine wpAny_bind (wpAny_load hu ?_)
  simp only [kxs_mw, mw_type, if_true]
  refine KFB.if_so (by decide) (wpAny_bind (check_bound_init F.excBase_ValueError.toExcCallFacts (I.kIn _ _ hC) ho rfl (wpAny_bind (wpAny_pure (wpAny_pure ⟨plainId_quiet F.excBase_ValueError.init.plain _, codeAny_builtin F.excBase_ValueError.initEntry ?_⟩)))))
  exact exc_init_tree (cls := .ref C) (t0 := t1) (dv := none) (c2 := .none) (c3 := .none) (b4 := .bool false) ho hl fun h' k hx _ => done h' k hx
end

/-! ### super().__init__(e, ..) as the first statement -/
/-- what is known of the class D, of its __init__ f -/
structure SupI (P : Program) (K : PySem.W.Frag) (mg : Str → Option Value) (D f : Addr) (F : NF) (fd : FuncData) : Prop where
  fn : ∃ oc od osl dV kV doc pm an ct, fd = ksFn F.name F.qual F.params F.body F.scope dV kV doc pm an (.ref F.c) ct (F.cl.headD ("", 0)).2 ∧ K.lookup f = some ⟨oc, od, .func fd, osl⟩
  cl : ∃ cc, F.cl = [(("__class__" : Str), cc)] ∧ ∃ c d sl, K.lookup cc = some ⟨c, d, .cell (some (.ref D)), sl⟩
  code : PySem.W.codeIn K (.ref F.c) F.qual = true
  file : ∃ c d vs sl z t, K.lookup F.c = some ⟨c, d, .fields vs, sl⟩ ∧ vs[2]? = some (.str z t) ∧ ((P.main.file : Str) == z) = true
  cls : ∃ cd, clsIn K D = some cd
  sub : mroIn K D (.ref D) = some true
  up : ks_superIn K D D "__init__" = some (some (.builtin "ValueError.__init__"))
  ve : subIn K (.ref D) (.type "ValueError") = some true
  third : nsIn K cStatics "thirdparty.any" = some none
  nosup : mg "super" = none
  top : (P.main.scope.names.lookup ("super" : Str)).isSome = false
  names : F.scope.names.lookup ("super" : Str) = some .globalImplicit
theorem init_ok {P : Program} {w : World} {K : PySem.W.Frag} {mg : Str → Option Value} {base : Heap} {CX : CXT} {N ps : List Str} {k : Nat} {f D : Addr} {F : NF} {fd : FuncData} {sp : Sp} {ar : Arg} {e : Expr} {es : List Expr} {rest : List Stmt} {p0 p1 p2 p3 p4 : Pos}
    (Z : SupI P K mg D f F fd) (T : OexC K D) (S : NScope N ps ["__class__"] F.scope) (hp : (F.params.posonlyargs ++ F.params.args).head? = some ar) (hps : ps[0]? = some ar.arg) (hbody : F.body = .Expr (.Call (.Attribute (.Call (.Name "super" p0) [] [] p1) "__init__" p2) (e :: es) [] p3) p4 :: rest)
    (len : ∀ vs H Q E, sp vs H Q E → vs.length = ps.length)
    (hb : ∀ (A : Around) (outer : List Env) (s : Shared) (H : Hp) (vs : List V) (Q : VK) (E : XK), Room k (A.deeper (envF F f s.heap.objs.size)) → sp vs H Q E →
      ∃ (a : Addr) (xs : List V) (ta : TA) (t : TS), vs = .ref a :: xs ∧ H a = some (exo a D none) ∧ PA (ncx CX P w K mg base N F f A outer s H E) (e :: es) ta ∧ PSs (ncx CX P w K mg base N F f A outer s H E) rest t ∧
        ta (startF N vs [none]) H fun ws H1 => ws.length ≤ 1000 ∧ H1 a = some (exo a D none) ∧ t { nx := fun _ H' => Q .non H', rt := Q } (startF N vs [none]) H1)
    (he : ∀ env : Env, starEach (e :: es) env = (false, eval e env) :: starEach es env := by intro _; rfl) (hpl : ∀ env : Env, (backTo p3 (starEach es env)).any (·.1) = false := by intro _; rfl)
    (hev : ∀ env : Env, ∃ pl : Sem Bool, eval (.Call (.Attribute (.Call (.Name "super" p0) [] [] p1) "__init__" p2) (e :: es) [] p3) env = (do
      let ov ← attributeBase (.Call (.Name "super" p0) [] [] p1) "__init__" env (eval (.Call (.Name "super" p0) [] [] p1) env)
      standAt p2.atName
      let (f, first) ← holding [ov] (getMethod ov "__init__" pl)
      callWith p3 f first (backTo p3 (starEach (e :: es) env)) []) := by intro _; exact ⟨_, rfl⟩)
    (hsw : ∀ env : Env, swapsWith (.Call (.Attribute (.Call (.Name "super" p0) [] [] p1) "__init__" p2) (e :: es) [] p3) none p4.line env = pure false := by intro _; rfl) :
    FnOk P w K mg base CX (k + 1) f fd ps sp := by
  refine ⟨len, fun A outer s H args us vs Q E hr e0 hbind r hsp => ?_⟩
  have hl := len _ _ _ _ hsp
  obtain ⟨cc, hcl, ccls, cdd, csl, hcc⟩ := Z.cl
  obtain ⟨oc, od, osl, dV, kV, doc, pm, an, ct, hfd, lk⟩ := Z.fn
  rw [hcl] at hfd
  have hfd : fd = ksFn F.name F.qual F.params F.body F.scope dV kV doc pm an (.ref F.c) ct cc := hfd
  have up : ∀ b o, base.get? b = some o → s.heap.get? b = some o := fun b o q => (e0.bs b o q).1
  have KI : K.In s.heap := e0.mod.kin.keeps up
  have lim : s.heap.NoLimit := e0.mod.nolimit.keeps up
  have inB : ∀ {b : Addr} {o : Obj}, K.lookup b = some o → H b = none := fun q => (e0.bs _ _ (e0.mod.kin _ _ q)).2
  have CA : CellsAt F.cl ["__class__"] [none] s.heap H := by
    refine ⟨rfl, fun y c q => ?_, fun x y c q1 q2 => ?_, fun i y q => ?_⟩
    · rw [hcl] at q
      simp only [List.lookup] at q
      split at q
      · cases q
        exact ⟨inB hcc, _, _, KI _ _ hcc, rfl⟩
      · cases q
    · rw [hcl] at q1 q2
      simp only [List.lookup] at q1 q2
      split at q1 <;> split at q2 <;> simp_all
    · cases i with
      | zero =>
        cases q
        refine ⟨cc, by rw [hcl]; rfl, fun v q => ?_⟩
        cases q
      | succ i => simp at q
  refine ks_codeAny_call_defAt (fd := fd) (body := F.body) (binds := ps.zip us) hr.depth (KI _ _ lk) rfl lim (by rw [hfd]; exact PySem.W.codeRec_of KI Z.code) (by rw [hfd]) hbind (by rw [hfd]; exact fun x hx => S.nocell x hx)
    (by rw [hfd]; exact fun x hx => S.par _ (List.of_mem_zip (show (x.1, x.2) ∈ ps.zip us from hx)).1) (fun h₁ hns kp => ?_) (by rw [hfd]; exact S.co) (by rw [hfd]; exact S.gen) (by rw [hfd]; exact S.kind)
  have eenv : callEnv fd s.heap.objs.size f = envF F f s.heap.objs.size := by
    rw [hfd]
    unfold envF
    rw [hcl]
    rfl
  rw [eenv]
  obtain ⟨a, xs, ta, t, hvs, ha, hpa, hpss, hta⟩ := hb A outer s H vs Q E (hr.deeper _) hsp
  have I : Inv (ncx CX P w K mg base N F f A outer s H E) [] (startF N vs [none]) H { s with heap := h₁, toks := s.toks + (ps.zip us).length } := inv_startN S hr.hd e0 hl r CA hns kp
  obtain ⟨fcl, fdd, vs', fsl, z, tz, hcode, hvs2, hfile⟩ := Z.file
  obtain ⟨cd, hcd⟩ := Z.cls
  obtain ⟨mb, b1, b2⟩ := e0.mod.blt
  have up1 : ∀ b o, base.get? b = some o → h₁.get? b = some o := fun b o q => kp b o (up b o q)
  have K1 : K.In h₁ := e0.mod.kin.keeps up1
  obtain ⟨oD, hD1, hD2⟩ : ∃ oD, h₁.get? D = some oD ∧ oD.data = .cls cd := by
    have q := hcd
    unfold clsIn at q
    split at q
    · rename_i l
      cases q
      exact ⟨_, K1 _ _ l, rfl⟩
    · cases q
  obtain ⟨t1, hoa⟩ := exo_at I.hok ha
  have hks : (envF F f s.heap.objs.size).kindOf "super" = some .globalImplicit := Z.names
  have hkc : (envF F f s.heap.objs.size).kindOf "__class__" = some .free := S.frk _ (List.mem_singleton.mpr rfl)
  have hka : (envF F f s.heap.objs.size).kindOf ar.arg = some .local := S.par _ (List.mem_of_getElem? hps)
  have ndP : ps.Nodup := by
    have q := S.nd.sublist (List.take_sublist (ps.length + [("__class__" : Str)].length) N)
    rw [S.pre] at q
    exact (List.nodup_append.mp q).1
  have hself : (ps.zip us).reverse.lookup ar.arg = some (.ref a) := by
    rw [hvs] at r
    cases r with
    | @cons _ u0 _ ur ra rw' =>
      obtain rfl : u0 = Value.ref a := ra
      exact zip_look (i := 0) ndP hps rfl
  have hne : a ≠ D := fun q => by
    rw [q] at hoa
    rw [hoa] at hD1
    cases hD1
    cases hD2
  obtain ⟨hp0, gs, dr, tk, os⟩ := s
  rw [hbody]
  obtain ⟨pl, hpl2⟩ := hev (envF F f hp0.objs.size)
  refine ks_wpAt_execs_cons (ks_wpAt_Expr_any (ks_wpAt_MethodCall (pl := pl) ?_ hpl2) (hi := ?hint) (hs := hsw _))
  case hint =>
    have q : (envF F f hp0.objs.size).scope.kind = .function := S.kind
    unfold interactive
    rw [q]
    rfl
  refine ks_wpAt_super_base (f := f) (cc := F.c) hks hkc rfl rfl (K1 _ _ lk) rfl (by rw [hfd]; exact hp) rfl (K1 _ _ hcode) rfl hvs2 hfile Z.top ?_
  refine ks_loadName_global S.kind hks (loadGlobal_builtin (e0.mod.glob.keeps up1) Z.nosup (b1.keeps up1) ((b2 _ (by decide)).trans (show bootBuiltins "super" = some (.type "super") by decide +kernel)) ⟨rfl, ?_⟩)
  refine wpAny_loadName_free S.kind hkc (show F.cl.lookup _ = _ by rw [hcl]; rfl) ⟨_, K1 _ _ hcc, rfl⟩ ?_
  refine wpAny_loadName_local S.kind hka hns hself ?_
  refine ks_wpAny_isType_cls hD1 hD2 ⟨rfl, ?_⟩
  refine ks_wpAny_call_super hD1 hD2 hoa rfl (fun _ q => by cases q) (looks_mroIn K1 Z.sub) (fun h2 e2 k2 => ?_)
  have K2 : K.In h2 := K1.keeps k2
  have IA : InstAt h2 a _ D none := ⟨k2 _ _ hoa, rfl, rfl, trivial⟩
  have hup : alongIn K "__init__" ((cd.mro.dropWhile (· != .ref D)).drop 1) = some (some (.builtin "ValueError.__init__")) := by
    have q := Z.up
    unfold ks_superIn at q
    rw [hcd] at q
    exact q
  refine kxs_getMethod kxs_ValueError e2 (looks_opaque K2 Z.third) (l₀ := cd.mro) (fun A Q E s k q => wpAny_bind ((looks_clsIn K2 hcd) A _ E s k (wpAny_pure q))) rfl K2 hup (IA.type.andThen (looks_subIn K2 Z.ve)) hne rfl ?_
  have hu : (h2.push (kxs_mw "ValueError.__init__" a)).get? h2.objs.size = some (kxs_mw "ValueError.__init__" a) := Heap.get?_push_at rfl rfl
  have k3 : ∀ b o, h₁.get? b = some o → (h2.push (kxs_mw "ValueError.__init__" a)).get? b = some o := fun b o q => Heap.get?_push_of_some _ (k2 _ _ q)
  have lt : h₁.objs.size < h2.objs.size := Heap.lt_size e2
  have I2 : Inv (ncx CX P w K mg base N F f A outer ⟨hp0, gs, dr, tk, os⟩ H E) [(h2.objs.size, kxs_mw "ValueError.__init__" a)] (startF N vs [none]) H ⟨h2.push (kxs_mw "ValueError.__init__" a), gs, dr, tk + (ps.zip us).length + 1, os⟩ := by
    refine (I.kept (t' := tk + (ps.zip us).length + 1) k3).pins_of fun q hq => ?_
    obtain rfl := List.mem_singleton.mp hq
    refine ⟨hu, ?_, ?_, ?_, fun v q => by cases q⟩
    · exact I.hok.fresh (Nat.le_of_lt lt)
    · exact fun q => absurd I.lt (by rw [← show h2.objs.size = _ from q]; exact Nat.not_lt.mpr (Nat.le_of_lt lt))
    · exact I.nofs (Nat.le_of_lt lt)
  have fin : ∀ {σ' : L2.St} {H' : Hp} {v : V} {u : Value} {s' : Shared}, Inv (ncx CX P w K mg base N F f A outer ⟨hp0, gs, dr, tk, os⟩ H E) [] σ' H' s' → RelV v u → Q v H' → CE outer P w H ⟨hp0, gs, dr, tk, os⟩ Q u s' :=
    fun {σ' H' v u s'} J rv q => ⟨v, H', J.os, J.bare, J.base, J.hok, rv, q⟩
  show wpAny _ _ (callWith p3 (.ref h2.objs.size) [] (backTo p3 (starEach (e :: es) (envF F f hp0.objs.size))) []) _ _ _
  have hargs := hpa.run p3 _ _ _ _ _ I2 hta
  have nw : News base hp0.objs.size (h2.push (kxs_mw "ValueError.__init__" a)) [(h2.objs.size, kxs_mw "ValueError.__init__" a)] := fun q hq => by
    obtain rfl := List.mem_singleton.mp hq
    have hL := I.lt
    have hL : hp0.objs.size < h₁.objs.size := hL
    refine ⟨hu, fun q => ?_, ?_⟩
    · have q : h2.objs.size = hp0.objs.size := q
      exact absurd (Nat.lt_trans hL lt) (by rw [q]; exact Nat.lt_irrefl _)
    · cases z : base.get? h2.objs.size with
      | none => rfl
      | some o =>
        have z1 := Heap.lt_size z
        have z2 : base.objs.size ≤ hp0.objs.size := e0.bsz
        exact absurd (Nat.lt_of_lt_of_le z1 z2) (Nat.not_lt.mpr (Nat.le_of_lt (Nat.lt_trans hL lt)))
  refine kxs_callWith1 (i := "ValueError.__init__") (x := a) nw (List.mem_singleton.mpr rfl) ?_ (he _) (hpl _)
  refine thn hargs fun us' s3 ⟨ws, H1, I4, r4, hlen, hex, q⟩ => ?_
  have hu4 : s3.heap.get? h2.objs.size = some (kxs_mw "ValueError.__init__" a) := (I4.pin _ (List.mem_append_right _ (List.mem_singleton.mpr rfl))).1
  have hlen4 : us'.length ≤ sizeLine := by
    rw [← Paired.length r4, sizeLine_eq]
    omega
  refine ⟨hu4, mw_run T I4 hex hu4 hlen4 fun s4 I5 => ?_⟩
  have I6 := I5.pins_of (pins' := []) fun q hq => by simp at hq
  refine wpAt_of_wpAny (wpAny_mono (hpss.run [] _ _ _ _ I6 q) (fun fl s' hs => ?_) fun e s' hs => hs)
  cases fl with
  | ret u =>
    obtain ⟨v, σ', H', J, rv, q⟩ := hs
    exact fin J rv q
  | next =>
    obtain ⟨σ', H', J, q⟩ := hs
    exact fin (v := V.non) (u := Value.none) J rfl q
  | brk =>
    obtain ⟨_, _, _, q⟩ := hs
    exact False.elim q
  | cont =>
    obtain ⟨_, _, _, q⟩ := hs
    exact False.elim q
end DLX
set_option Elab.async false
set_option linter.all false
set_option maxRecDepth 100000
/-! DL, part y: own errors raised. -/
namespace DL
open PySem PySem.Spec PyProof.Rows L2
/-- what an own error's __init__ promises: the fields, in order -/
def spE (C : Addr) (fs : List Str) : Sp := fun vs H Q _ => ∃ (a : Addr) (xs : List V), vs = .ref a :: xs ∧ xs.length = fs.length ∧ H a = some (exo a C none) ∧
  ∀ (d : Addr) (H' : Hp), H d = none → d ≠ a → H' a = some (exo a C (some d)) → H' d = some (exd d (fs.zip xs).reverse) → (∀ b, b ≠ a → b ≠ d → H' b = H b) → Q .non H'
/-- an own error class that may be raised -/
def ErrOk (P : Program) (w : World) (K : PySem.W.Frag) (mg : Mg) (base : Heap) (x : Str) (k : Nat) (fs : List Str) : Prop :=
  ∃ C fI fd ps, mg x = some (.ref C) ∧ OexC K C ∧ PySem.W.findIn K (.ref C) "__init__" = some (some (.ref fI)) ∧ PySem.W.typeIn K (.ref fI) = some (.type "function") ∧ FnOk P w K mg base (L2.CX P w) k fI fd ps (spE C fs) ∧ Binds K fd ps []
def sRaise (x : Str) (fs : List Str) (ga : EA) : SS := fun sd μ => match ga sd μ with
  | none => none
  | some (.error e, μ1) => some (.exc e, sd, μ1)
  | some (.ok ds, μ1) => if ds.length = fs.length ∧ ds.length ≤ 1000 ∧ plainL ds = true then some (.exc ⟨x, (fs.zip ds).reverse⟩, sd, μ1) else none
section
variable {X : Cx} {H0 : Hp} {W : WX} {av θ : List Addr} {sd : Sl} {μ : Mem} {σ : L2.St} {H : Hp}
theorem repF_app {K : PySem.W.Frag} {mg : Mg} {f : Str} {d : D} {v : V} (r : rep K mg H0 av θ H d v) : ∀ {ds : List (Str × D)} {xs : List (Str × V)}, repF K mg H0 av θ H ds xs → repF K mg H0 av θ H (ds ++ [(f, d)]) (xs ++ [(f, v)])
  | [], xs, h => by
    have h : xs = [] := h
    subst h
    exact ⟨v, [], rfl, r, rfl⟩
  | (g, e) :: ds, xs, ⟨x, rr, q, h, t⟩ => by
    subst q
    exact ⟨x, rr ++ [(f, v)], rfl, h, repF_app r t⟩
theorem repF_zip {K : PySem.W.Frag} {mg : Mg} : ∀ (fs : List Str) {ds : List D} {xs : List V}, repL K mg H0 av θ H ds xs → repF K mg H0 av θ H (fs.zip ds).reverse (fs.zip xs).reverse
  | [], _, _, _ => rfl
  | f :: fs, [], xs, h => by
    have h : xs = [] := h
    subst h
    rfl
  | f :: fs, d :: ds, _, ⟨x, r, q, h, t⟩ => by
    subst q
    rw [List.zip_cons_cons, List.zip_cons_cons, List.reverse_cons, List.reverse_cons]
    exact repF_app h (repF_zip fs t)
theorem plainF_app : ∀ {ds : List (Str × D)} {f : Str} {d : D}, plainF ds = true → plain d = true → plainF (ds ++ [(f, d)]) = true
  | [], f, d, _, h => by show (plain d && plainF []) = true; rw [h]; rfl
  | (g, e) :: ds, f, d, h, h2 => by
    have h : (plain e && plainF ds) = true := h
    rw [Bool.and_eq_true] at h
    show (plain e && plainF (ds ++ [(f, d)])) = true
    rw [h.1, plainF_app h.2 h2]
    rfl
theorem plainF_zip : ∀ (fs : List Str) {ds : List D}, plainL ds = true → plainF (fs.zip ds).reverse = true
  | [], _, _ => rfl
  | f :: fs, [], _ => rfl
  | f :: fs, d :: ds, h => by
    have h : (plain d && plainL ds) = true := h
    rw [Bool.and_eq_true] at h
    rw [List.zip_cons_cons, List.reverse_cons]
    exact plainF_app (plainF_zip fs h.2) h.1
/-- raise C(e, ..) -/
theorem ps_raiseE {x : Str} {fs : List Str} {k j : Nat} {e : Expr} {es : List Expr} {ga : EA} {p pos pos2 : Pos} (R : ErrOk X.prog X.w X.K X.mg X.base x k fs) (hc : X.calm = true) (tk : Takes X W) (hr : Room j X.A) (ha : PA X (e :: es) (tA X.K X.mg H0 W ga))
    (hk : k + 1 ≤ j := by decide) (hg : Gl X x := by rfl) (hdb : (x == ("__debug__" : Str)) = false := by decide) (he : starEach (e :: es) X.env = (false, eval e X.env) :: starEach es X.env := by rfl) (hpl : (backTo pos (starEach es X.env)).any (·.1) = false := by rfl) :
    PS X (.Raise (some (.Call (.Name x p) (e :: es) [] pos)) none pos2) (tS X.K X.mg H0 W (sRaise x fs ga)) := by
  obtain ⟨C, fI, fd, ps, hm, T, iC, tI, F1, hb⟩ := R
  refine wkS (ps_raise hc tk (pmk_oex (dvs := []) T iC tI F1 (hr.mono hk) hb .nil passL hg hm ha hdb he hpl)) fun E σ H ⟨av, θ, sd, μ, R, P⟩ => ⟨av, θ, sd, μ, R, ?_⟩
  unfold sRaise at P
  match hq : ga sd μ, P with
  | none, P => exact P
  | some (.error x, μ1), P => exact fun cls dd θ' H' g' R' r => P cls dd σ θ' H' g' R' r
  | some (.ok ds, μ1), P =>
    intro vs θ1 H1 nv g1 R1 r1
    have R1 := R1.plain
    by_cases hd : ds.length = fs.length ∧ ds.length ≤ 1000 ∧ plainL ds = true
    case neg => simp only [if_neg hd] at P; exact P.elim
    simp only [if_pos hd] at P
    have hl := repL.length r1
    refine ⟨by omega, fun a ha => ⟨a, vs, by simp, by omega, upd_same, fun d H' h1 h2 h3 h4 h5 => ⟨rfl, d, _, h3, h4, ?_, ?_⟩⟩⟩
    · rw [upd_ne h2] at h1
      exact h1
    · rw [upd_ne h2] at h1
      have eH : upd (del H' a) d (.xd (fs.zip vs).reverse) = upd H1 d (.xd (fs.zip vs).reverse) := funext fun b => by
        by_cases hb : b = d
        · subst hb; rw [upd_same, upd_same]
        · rw [upd_ne hb, upd_ne hb]
          by_cases hb2 : b = a
          · subst hb2; rw [del_same, ha]
          · rw [del_ne hb2, h5 b hb2 hb, upd_ne hb2]
      rw [eH]
      have ex : Exh H1 (upd H1 d (.xd (fs.zip vs).reverse)) := Exh.new h1
      refine P _ _ σ θ1 _ (g1.trans (Gr.of_ex ex)) (R1.grow ex) (.inl ⟨C, d, _, hm, rfl, rfl, R1.notin h1, R1.notav h1, upd_same, plainF_zip fs hd.2.2, ?_⟩)
      exact repF_zip fs (repL.gr (Gr.of_ex ex) _ _ r1)
end
end DL
set_option Elab.async false
set_option linter.all false
set_option maxRecDepth 100000
/-! DL, part z: an own error of one, of two fields. -/
namespace DL
open PySem PySem.Spec PyProof.Rows L2 NdefX DLX
section
variable {P : Program} {w : World} {K : PySem.W.Frag} {mg : Mg} {base : Heap} {CX : CXT} {f D : Addr} {F : NF} {fd : FuncData} {ar : Arg} {s x y g h z : Str} {j : Nat} {p0 p1 p2 p3 p4 p5 p6 p7 p8 p9 q5 q6 q7 q8 q9 : Pos}
theorem errF1 (Z : SupI P K mg D f F fd) (T : OexC K D) (S : NScope [s, x, "__class__"] [s, x] ["__class__"] F.scope) (hp : (F.params.posonlyargs ++ F.params.args).head? = some ar) (hps : some s = some ar.arg)
    (hbody : F.body = [.Expr (.Call (.Attribute (.Call (.Name "super" p0) [] [] p1) "__init__" p2) [.Constant (.str z) j p5] [] p3) p4, .Assign [.Attribute (.Name s p6) g p7] (.Name x p8) p9])
    (hno : PySem.W.findIn K (.ref D) g = some none) (hs : (s == ("__debug__" : Str)) = false) (hs2 : (s == ("__classdict__" : Str)) = false) (hx : (x == ("__debug__" : Str)) = false) (hx2 : (x == ("__classdict__" : Str)) = false)
    (hev : ∀ env : Env, ∃ pl : Sem Bool, eval (.Call (.Attribute (.Call (.Name "super" p0) [] [] p1) "__init__" p2) [.Constant (.str z) j p5] [] p3) env = (do
      let ov ← attributeBase (.Call (.Name "super" p0) [] [] p1) "__init__" env (eval (.Call (.Name "super" p0) [] [] p1) env)
      standAt p2.atName
      let (f, first) ← holding [ov] (getMethod ov "__init__" pl)
      callWith p3 f first (backTo p3 (starEach [.Constant (.str z) j p5] env)) []) := by intro _; exact ⟨_, rfl⟩) :
    FnOk P w K mg base CX 1 f fd [s, x] (spE D [g]) := by
  refine init_ok Z T S hp hps hbody (fun vs H Q E q => ?_) (fun A outer s0 H vs Q E hr q => ?_) (hev := hev)
  · obtain ⟨a, xs, rfl, hl, _⟩ := q
    show xs.length + 1 = 2
    have : xs.length = 1 := hl
    omega
  · obtain ⟨a, xs, rfl, hl, ha, hq⟩ := q
    obtain ⟨v, rfl⟩ : ∃ v, xs = [v] := by
      match xs, hl with
      | [v], _ => exact ⟨v, rfl⟩
    have v0 : Vis F.scope s := Or.inl (S.par s (by simp))
    have v1 : Vis F.scope x := Or.inl (S.par x (by simp))
    refine ⟨a, [v], _, _, rfl, ha, pa_cons pe_str pa_nil, pss_one (ps_ost (pe_var (i := 0) rfl v0 hs hs2) (pe_var (i := 1) rfl v1 hx hx2)), ?_⟩
    refine ⟨by simp, ha, v, rfl, .ref a, rfl, a, D, rfl, T, hno, .inl ⟨ha, fun dx n ne => hq dx _ n ne ?_ ?_ fun b h1 h2 => ?_⟩⟩
    · exact upd_same
    · rw [upd_ne ne, upd_same]; rfl
    · rw [upd_ne h1, upd_ne h2]
theorem errF2 (Z : SupI P K mg D f F fd) (T : OexC K D) (S : NScope [s, x, y, "__class__"] [s, x, y] ["__class__"] F.scope) (hp : (F.params.posonlyargs ++ F.params.args).head? = some ar) (hps : some s = some ar.arg)
    (hbody : F.body = [.Expr (.Call (.Attribute (.Call (.Name "super" p0) [] [] p1) "__init__" p2) [.Constant (.str z) j p5] [] p3) p4, .Assign [.Attribute (.Name s p6) g p7] (.Name x p8) p9, .Assign [.Attribute (.Name s q6) h q7] (.Name y q8) q9])
    (hno : PySem.W.findIn K (.ref D) g = some none) (hno2 : PySem.W.findIn K (.ref D) h = some none) (hs : (s == ("__debug__" : Str)) = false) (hs2 : (s == ("__classdict__" : Str)) = false) (hx : (x == ("__debug__" : Str)) = false) (hx2 : (x == ("__classdict__" : Str)) = false)
    (hy : (y == ("__debug__" : Str)) = false) (hy2 : (y == ("__classdict__" : Str)) = false)
    (hev : ∀ env : Env, ∃ pl : Sem Bool, eval (.Call (.Attribute (.Call (.Name "super" p0) [] [] p1) "__init__" p2) [.Constant (.str z) j p5] [] p3) env = (do
      let ov ← attributeBase (.Call (.Name "super" p0) [] [] p1) "__init__" env (eval (.Call (.Name "super" p0) [] [] p1) env)
      standAt p2.atName
      let (f, first) ← holding [ov] (getMethod ov "__init__" pl)
      callWith p3 f first (backTo p3 (starEach [.Constant (.str z) j p5] env)) []) := by intro _; exact ⟨_, rfl⟩) :
    FnOk P w K mg base CX 1 f fd [s, x, y] (spE D [g, h]) := by
  refine init_ok Z T S hp hps hbody (fun vs H Q E q => ?_) (fun A outer s0 H vs Q E hr q => ?_) (hev := hev)
  · obtain ⟨a, xs, rfl, hl, _⟩ := q
    show xs.length + 1 = 3
    have : xs.length = 2 := hl
    omega
  · obtain ⟨a, xs, rfl, hl, ha, hq⟩ := q
    obtain ⟨v, u, rfl⟩ : ∃ v u, xs = [v, u] := by
      match xs, hl with
      | [v, u], _ => exact ⟨v, u, rfl⟩
    have v0 : Vis F.scope s := Or.inl (S.par s (by simp))
    have v1 : Vis F.scope x := Or.inl (S.par x (by simp))
    have v2 : Vis F.scope y := Or.inl (S.par y (by simp))
    refine ⟨a, [v, u], _, _, rfl, ha, pa_cons pe_str pa_nil, pss_cons (ps_ost (pe_var (i := 0) rfl v0 hs hs2) (pe_var (i := 1) rfl v1 hx hx2)) (pss_one (ps_ost (pe_var (i := 0) rfl v0 hs hs2) (pe_var (i := 2) rfl v2 hy hy2))), ?_⟩
    refine ⟨by simp, ha, v, rfl, .ref a, rfl, a, D, rfl, T, hno, .inl ⟨ha, fun dx n ne => ?_⟩⟩
    refine ⟨u, rfl, .ref a, rfl, a, D, rfl, T, hno2, .inr ⟨dx, [(g, v)], upd_same, ?_, by simp, ?_⟩⟩
    · rw [upd_ne ne, upd_same]
    · refine hq dx _ n ne ?_ upd_same fun b h1 h2 => ?_
      · rw [upd_ne (Ne.symm ne), upd_same]
      · rw [upd_ne h2, upd_ne h1, upd_ne h2]
end
end DL
set_option Elab.async false
set_option linter.all false
set_option maxRecDepth 100000
/-! DL, part p: try with several clauses, each with or without a name. -/
namespace DL
open PySem PySem.Spec PyProof.Rows L2
/-- a clause: its class, its name's slot, its suite's reading -/
structure Cl where
  c : Value
  nm : Option Nat
  ts : Addr → Value → Option Addr → TS
def Cl.ends (D : Ends) : Option Nat → Ends
  | none => D
  | some i => { nx := fun σ' H' => D.nx (σ'.set i none) H', rt := D.rt, bk := fun σ' H' => D.bk (σ'.set i none) H', ct := fun σ' H' => D.ct (σ'.set i none) H' }
def Cl.st (σ : L2.St) (a : Addr) : Option Nat → L2.St
  | none => σ
  | some i => σ.set i (some (.ref a))
def wCl (K : PySem.W.Frag) (Wo : WX) (D : Ends) : List Cl → WX
  | [] => Wo
  | q :: r => fun cls d σ H => ∃ b, PySem.W.exmOne K cls q.c = some b ∧ (b = true → ∀ a, H a = none → q.ts a cls d (Cl.ends D q.nm) (Cl.st σ a q.nm) H) ∧ (b = false → wCl K Wo D r cls d σ H)
inductive ClsOk (X : Cx) : List ExceptHandler → List Cl → Prop
  | nil : ClsOk X [] []
  | one {x : Str} {c : Value} {ts : Addr → Value → Option Addr → TS} {b₀ : Stmt} {su : List Stmt} {np p' : Pos} {hds : List ExceptHandler} {l : List Cl} (hc : Names X x c)
      (hsu : ∀ (a : Addr) (oe : Obj) (cls : Value) (d : Option Addr) (pn : List (Addr × Obj)), Zc cls d oe → (∃ vs, oe.data = .fields vs) → PSs (X.suite a ((a, oe) :: pn)) (b₀ :: su) (ts a cls d)) (r : ClsOk X hds l) :
      ClsOk X (.ExceptHandler (some (.Name x np)) none (b₀ :: su) p' :: hds) (⟨c, none, ts⟩ :: l)
  | as {x n : Str} {i : Nat} {c : Value} {ts : Addr → Value → Option Addr → TS} {b₀ : Stmt} {su : List Stmt} {np p' : Pos} {hds : List ExceptHandler} {l : List Cl} (hc : Names X x c) (hi : X.N[i]? = some n) (hln : X.env.kindOf n = some .local)
      (hsu : ∀ (a : Addr) (oe : Obj) (cls : Value) (d : Option Addr) (pn : List (Addr × Obj)), Zc cls d oe → (∃ vs, oe.data = .fields vs) → PSs (X.suite a ((a, oe) :: pn)) (b₀ :: su) (ts a cls d)) (r : ClsOk X hds l) :
      ClsOk X (.ExceptHandler (some (.Name x np)) (some n) (b₀ :: su) p' :: hds) (⟨c, some i, ts⟩ :: l)
section
variable {X : Cx} {body : List Stmt} {h₀ : ExceptHandler} {hds : List ExceptHandler} {l : List Cl} {pos : Pos} {tb : WX → TS} {Wo : WX}
theorem ps_tryC (hst : X.stack = X.env :: X.outer) (hfm : X.env.frame = some X.env.locals) (hN : X.N.Nodup) (tk : Takes X Wo)
    (hbd : ∀ (W : WX) (pn : List (Addr × Obj)) (xe : Value → Shared → Prop), Takes (X.tr pn xe) W → PassesOwn (model X.prog X.w) X.A X.env xe → PSs (X.tr pn xe) body (tb W))
    (hcl : ClsOk X (h₀ :: hds) l) : PS X (.Try body (h₀ :: hds) [] [] pos) (fun D σ H => tb (wCl X.K Wo D l) D σ H) := by
  refine ⟨fun pins s σ H D I hw => ?_⟩
  have okX := I.ok
  have frs' : X.A.frames = some (X.env :: X.outer) := okX.frames.trans (congrArg some hst)
  refine wpAny_Try_except (wpAny_mono ((hbd (wCl X.K Wo D l) (X.pn ++ pins) _ (fun u s' xx => ?_) PassesOwn.looking).run [] s σ H D (I.toTry _) hw) (fun fl s1 q => ?_) fun _ _ q => q)
  · obtain ⟨a, B, sI, pins', σ', H', cls, d, rfl, J', nb, up, sky, na, os, ag, w⟩ := xx
    have J : Inv X pins σ' H' sI := Inv.ofTry J' okX
    rw [hst] at sky
    show wpAny (model X.prog X.w) X.A (noteFrame (.ref a) X.env) _ _ _
    refine Sky.land Zc.steady frs' hfm sky fun g flG upG => ?_
    have JG : Inv X pins σ' H' { s' with heap := g } := J.landed nb flG.1 (up.trans upG) os ag
    obtain ⟨og, vg, hog, hzg, hdg⟩ := flG.there
    have out : a ∉ frs (X.env :: X.outer) := fun hm => by
      obtain ⟨_, o', e', hnf⟩ := flG.2.2.1.mem hm
      rw [hog] at e'
      cases e'
      exact hnf _ hdg
    have nL : a ≠ X.env.locals := fun z => out (List.mem_filterMap.mpr ⟨X.env, List.mem_cons_self, by rw [hfm, z]⟩)
    have nF : a ∉ X.fs := fun hm => let ⟨e, he, q⟩ := List.mem_filterMap.mp hm; out (List.mem_filterMap.mpr ⟨e, List.mem_cons_of_mem _ he, q⟩)
    have SG := JG.suite hog hdg na nL nF
    have walk : ∀ {hs' : List ExceptHandler} {l' : List Cl}, ClsOk X hs' l' → wCl X.K Wo D l' cls d σ' H' → wpAny (model X.prog X.w) X.A (handleBy (.ref a) X.env hs') (SP X pins D) X.xe { s' with heap := g } := by
      intro hs' l' hk
      have look : ∀ {x : Str} {c : Value} {np : Pos}, Names X x c → ∀ {Q : Value → Shared → Prop} {E : Value → Shared → Prop}, Q c { s' with heap := g } → wpAny (model X.prog X.w) (X.A.mark (some (.ref a))) (eval (.Name x np) X.env) Q E { s' with heap := g } := fun {x c np} hn {Q E} q => by
        obtain ⟨g1, g2, m1 | ⟨m1, m2, m3⟩⟩ := hn
        · exact ld_glob (X := X.suite a ((a, og) :: (X.pn ++ pins))) SG g1 m1 q g2
        · exact ld_blt (X := X.suite a ((a, og) :: (X.pn ++ pins))) SG g1 m1 m2 q m3 g2
      induction hk with
      | nil => exact fun w => PySem.PX.no_clauseZ hfm flG fun h4 hh4 up4 => tk _ _ ⟨a, B, sI, pins, σ', H', cls, d, rfl, J, nb, (up.trans upG).trans up4, .inr (.inr (by rw [hst]; exact hh4)), na, os, ag, w⟩
      | @one x c ts b₀ su np p' hds2 l2 hc hsu r ih =>
        intro ⟨b, hb1, yes, no⟩
        cases b with
        | false => exact PySem.PX.clause_passZ JG.kIn (fun o q => q.1) flG hb1 (look hc) (ih (no rfl))
        | true =>
          refine PySem.PX.clause_onlyZ JG.kIn (fun o q => q.1) flG hb1 (look hc) fun h4 fl4 up4 => ?_
          have J4 : Inv X pins σ' H' { s' with heap := h4 } := J.landed nb fl4.1 ((up.trans upG).trans up4) os ag
          obtain ⟨o4, v4, ho4, hz4, hd4⟩ := HandSPX.FlyingZ.there fl4
          refine wpAny_mono ((hsu a o4 cls d (X.pn ++ pins) hz4 ⟨_, hd4⟩).run [] _ _ H' _ (J4.suite ho4 hd4 na nL nF) (yes rfl a na)) (fun f s6 q => ?_) fun _ _ z => False.elim z
          cases f with
          | ret u => obtain ⟨v6, σ6, H6, S6, r6, q6⟩ := q; exact ⟨v6, σ6, H6, S6.unsuite okX, r6, q6⟩
          | next => obtain ⟨σ6, H6, S6, q6⟩ := q; exact ⟨σ6, H6, S6.unsuite okX, q6⟩
          | brk => obtain ⟨σ6, H6, S6, q6⟩ := q; exact ⟨σ6, H6, S6.unsuite okX, q6⟩
          | cont => obtain ⟨σ6, H6, S6, q6⟩ := q; exact ⟨σ6, H6, S6.unsuite okX, q6⟩
      | @as x n i c ts b₀ su np p' hds2 l2 hc hi hln hsu r ih =>
        intro ⟨b, hb1, yes, no⟩
        cases b with
        | false => exact PySem.PX.clause_passZ JG.kIn (fun o q => q.1) flG hb1 (look hc) (ih (no rfl))
        | true =>
          refine PySem.PX.clause_asZ JG.kIn (fun o q => q.1) flG hb1 (look hc) fun h4 fl4 up4 => ?_
          have J4 : Inv X pins σ' H' { s' with heap := h4 } := J.landed nb fl4.1 ((up.trans upG).trans up4) os ag
          obtain ⟨o4, v4, ho4, hz4, hd4⟩ := HandSPX.FlyingZ.there fl4
          refine store_ok (X := X.suite a ((a, o4) :: (X.pn ++ pins))) (v := .ref a) (J4.suite ho4 hd4 na nL nF) hN hi (.inl hln) rfl (fun s5 S5 => ?_) (.inr hln)
          refine wpAny_mono ((hsu a o4 cls d (X.pn ++ pins) hz4 ⟨_, hd4⟩).run [] s5 _ H' _ S5 (yes rfl a na)) (fun f s6 q => ?_) fun _ _ z => False.elim z
          cases f with
          | ret u => obtain ⟨v6, σ6, H6, S6, r6, q6⟩ := q; exact gone_ok (S6.unsuite okX) hN hi hln fun s7 J7 => ⟨v6, _, H6, J7, r6, q6⟩
          | next => obtain ⟨σ6, H6, S6, q6⟩ := q; exact gone_ok (S6.unsuite okX) hN hi hln fun s7 J7 => ⟨_, H6, J7, q6⟩
          | brk => obtain ⟨σ6, H6, S6, q6⟩ := q; exact gone_ok (S6.unsuite okX) hN hi hln fun s7 J7 => ⟨_, H6, J7, q6⟩
          | cont => obtain ⟨σ6, H6, S6, q6⟩ := q; exact gone_ok (S6.unsuite okX) hN hi hln fun s7 J7 => ⟨_, H6, J7, q6⟩
    exact walk hcl w
  · cases fl with
    | ret u => obtain ⟨v, σ', H', J', r, q⟩ := q; exact ⟨v, σ', H', J'.ofTry okX, r, q⟩
    | next => obtain ⟨σ', H', J', q⟩ := q; exact wpAny_execs_nil ⟨σ', H', J'.ofTry okX, q⟩
    | brk => obtain ⟨σ', H', J', q⟩ := q; exact ⟨σ', H', J'.ofTry okX, q⟩
    | cont => obtain ⟨σ', H', J', q⟩ := q; exact ⟨σ', H', J'.ofTry okX, q⟩
end
end DL
set_option Elab.async false
set_option linter.all false
set_option maxRecDepth 100000
/-! DL, part q: try, plainly. -/
namespace DL
open PySem PySem.Spec PyProof.Rows L2
/-- a class by its name -/
def ClsVal (mg : Mg) (x : Str) (c : Value) : Prop := mg x = some c ∨ (mg x = none ∧ bootBuiltins x = some c ∧ x ≠ "__name__")
/-- the table of which class is caught by which -/
def ExT (K : PySem.W.Frag) (mg : Mg) (T : Str → Str → Option Bool) : Prop := ∀ x y b, T x y = some b → (∃ c, mg x = some (.ref c)) ∧ ∀ cx cy, mg x = some cx → ClsVal mg y cy → PySem.W.exmOne K cx cy = some b
/-- a clause: the class's name, the slot of its name, its suite: of where the exception and its dict lie, of the exception -/
structure Hd where
  x : Str
  nm : Option Nat
  su : Addr → Addr → Exn → SS
def finS (i : Nat) (r : SR) : SR := match r with
  | none => none
  | some (.exc _, _, _) => none
  | some (f, sd, μ) => some (f, sd.set i none, μ)
def noX (r : SR) : SR := match r with
  | some (.exc _, _, _) => none
  | r => r
noncomputable def pickS (T : Str → Str → Option Bool) : List Hd → Exn → SS
  | [], e => fun sd μ => some (.exc e, sd, μ)
  | h :: r, e => match T e.cls h.x with
    | none => fun _ _ => none
    | some false => pickS T r e
    | some true => fun sd μ => match h.nm with
      | none => when_ (∀ a d, h.su a d e sd μ = h.su 0 0 e sd μ) (noX (h.su 0 0 e sd μ))
      | some i => when_ (∀ a d, finS i (h.su a d e (sd.set i (some (.exh a d e.cls e.fs))) μ) = finS i (h.su 0 0 e (sd.set i (some (.exh 0 0 e.cls e.fs))) μ)) (finS i (h.su 0 0 e (sd.set i (some (.exh 0 0 e.cls e.fs))) μ))
noncomputable def sTry (T : Str → Str → Option Bool) (body : SS) (hs : List Hd) : SS := fun sd μ => match body sd μ with
  | some (.exc e, sd1, μ1) => pickS T hs e sd1 μ1
  | r => r
/-- what a suite's derivation is given -/
def SuiteAt (X : Cx) (H0 : Hp) (st : List Stmt) (su : Addr → Addr → Exn → SS) : Prop :=
  ∀ (a : Addr) (oe : Obj) (c dd : Addr) (e : Exn) (pn : List (Addr × Obj)), X.mg e.cls = some (.ref c) → Zc (.ref c) (some dd) oe → (∃ vs, oe.data = .fields vs) → PSs (X.suite a ((a, oe) :: pn)) st (tS X.K X.mg H0 WF (su a dd e))
def tSu (X : Cx) (H0 : Hp) (su : Addr → Addr → Exn → SS) : Addr → Value → Option Addr → TS := fun a cls d D σ H => ∃ (e : Exn) (c dd : Addr), X.mg e.cls = some (.ref c) ∧ cls = .ref c ∧ d = some dd ∧ tS X.K X.mg H0 WF (su a dd e) D σ H
inductive HdsAt (X : Cx) (H0 : Hp) : List ExceptHandler → List Hd → List Cl → Prop
  | nil : HdsAt X H0 [] [] []
  | one {x : Str} {c : Value} {su : Addr → Addr → Exn → SS} {b₀ : Stmt} {st : List Stmt} {np p' : Pos} {hds : List ExceptHandler} {l : List Hd} {l2 : List Cl} (hc : Names X x c) (hs : SuiteAt X H0 (b₀ :: st) su) (r : HdsAt X H0 hds l l2) :
      HdsAt X H0 (.ExceptHandler (some (.Name x np)) none (b₀ :: st) p' :: hds) (⟨x, none, su⟩ :: l) (⟨c, none, tSu X H0 su⟩ :: l2)
  | as {x n : Str} {i : Nat} {c : Value} {su : Addr → Addr → Exn → SS} {b₀ : Stmt} {st : List Stmt} {np p' : Pos} {hds : List ExceptHandler} {l : List Hd} {l2 : List Cl} (hc : Names X x c) (hi : X.N[i]? = some n) (hln : X.env.kindOf n = some .local) (hs : SuiteAt X H0 (b₀ :: st) su)
      (r : HdsAt X H0 hds l l2) : HdsAt X H0 (.ExceptHandler (some (.Name x np)) (some n) (b₀ :: st) p' :: hds) (⟨x, some i, su⟩ :: l) (⟨c, some i, tSu X H0 su⟩ :: l2)
section
variable {X : Cx} {H0 : Hp} {W : WX} {av θ : List Addr} {sd : Sl} {μ : Mem} {σ : L2.St} {H : Hp}
theorem suite_ps {st : List Stmt} {su : Addr → Addr → Exn → SS} (h : SuiteAt X H0 st su) (a : Addr) (oe : Obj) (cls : Value) (d : Option Addr) (pn : List (Addr × Obj)) (hz : Zc cls d oe) (hf : ∃ vs, oe.data = .fields vs) :
    PSs (X.suite a ((a, oe) :: pn)) st (tSu X H0 su a cls d) := by
  refine ⟨fun pins s σ H D I ⟨e, c, dd, hm, e1, e2, q⟩ => ?_⟩
  subst e1 e2
  exact (h a oe c dd e pn hm hz hf).run pins s σ H D I q
theorem HdsAt.ok {hds : List ExceptHandler} {l : List Hd} {l2 : List Cl} (h : HdsAt X H0 hds l l2) : ClsOk X hds l2 := by
  induction h with
  | nil => exact .nil
  | one hc hs r ih => exact .one hc (fun a oe cls d pn hz hf => suite_ps hs a oe cls d pn hz hf) ih
  | as hc hi hln hs r ih => exact .as hc hi hln (fun a oe cls d pn hz hf => suite_ps hs a oe cls d pn hz hf) ih
/-- the clauses take what they are to take -/
theorem pick_ok {T : Str → Str → Option Bool} (hT : ExT X.K X.mg T) {E : Ends} {e : Exn} {cls : Value} {dd : Option Addr} {hds : List ExceptHandler} {l : List Hd} {l2 : List Cl} (hk : HdsAt X H0 hds l l2) (R : RS X.K X.mg H0 av θ sd μ σ H)
    (r : repX X.K X.mg H0 av θ H e cls dd) (hown : ∃ c, X.mg e.cls = some (.ref c)) (P : PostS X.K X.mg H0 W av θ H E (pickS T l e sd μ)) : wCl X.K W E l2 cls dd σ H := by
  obtain ⟨c, d, vs, h1, h2, h3, n, m, h4, hp, hr⟩ : ∃ c d vs, X.mg e.cls = some (.ref c) ∧ cls = .ref c ∧ dd = some d ∧ d ∉ θ ∧ d ∉ av ∧ H d = some (.xd vs) ∧ plainF e.fs = true ∧ repF X.K X.mg H0 av θ H e.fs vs := by
    rcases r with r | ⟨_, _, q, _⟩
    · exact r
    · obtain ⟨c, hc⟩ := hown
      rw [q] at hc
      cases hc
  subst h2 h3
  have nv : ∀ {x : Str} {c : Value}, Names X x c → ClsVal X.mg x c := fun ⟨_, _, q⟩ => q
  induction hk with
  | nil => exact P (.ref c) (some d) σ θ H Gr.refl R (.inl ⟨c, d, vs, h1, rfl, rfl, n, m, h4, hp, hr⟩)
  | @one x cc su b₀ st np p' hds l l2 hc hs hr' ih =>
    unfold pickS at P
    cases hb : T e.cls x with
    | none => rw [hb] at P; exact P.elim
    | some b =>
      rw [hb] at P
      refine ⟨b, (hT _ _ _ hb).2 _ _ h1 (nv hc), fun q a ha => ?_, fun q => ?_⟩
      · subst q
        simp only at P
        cases hw : when_ (∀ a d, su a d e sd μ = su 0 0 e sd μ) (noX (su 0 0 e sd μ)) with
        | none => rw [hw] at P; exact P.elim
        | some z =>
          rw [hw] at P
          obtain ⟨q1, q2⟩ := when_some hw
          refine ⟨e, c, d, h1, rfl, rfl, av, θ, sd, μ, R, ?_⟩
          rw [q1 a d]
          unfold noX at q2
          split at q2
          · cases q2
          · rw [q2]
            rename_i hne
            obtain ⟨f, sd2, μ2⟩ := z
            cases f with
            | exc e => exact absurd q2 (hne _ _ _)
            | _ => exact P
      · subst q
        exact ih P
  | @as x nn i cc su b₀ st np p' hds l l2 hc hi hln hs hr' ih =>
    unfold pickS at P
    cases hb : T e.cls x with
    | none => rw [hb] at P; exact P.elim
    | some b =>
      rw [hb] at P
      refine ⟨b, (hT _ _ _ hb).2 _ _ h1 (nv hc), fun q a ha => ?_, fun q => ?_⟩
      · subst q
        simp only at P
        cases hw : when_ (∀ a d, finS i (su a d e (sd.set i (some (.exh a d e.cls e.fs))) μ) = finS i (su 0 0 e (sd.set i (some (.exh 0 0 e.cls e.fs))) μ)) (finS i (su 0 0 e (sd.set i (some (.exh 0 0 e.cls e.fs))) μ)) with
        | none => rw [hw] at P; exact P.elim
        | some z =>
          rw [hw] at P
          obtain ⟨q1, q2⟩ := when_some hw
          rw [← q1 a d] at q2
          have R2 : RS X.K X.mg H0 av θ (sd.set i (some (.exh a d e.cls e.fs))) μ (σ.set i (some (.ref a))) H := R.set i ⟨c, vs, rfl, n, m, h1, h4, hr⟩
          refine ⟨e, c, d, h1, rfl, rfl, av, θ, _, μ, R2, ?_⟩
          generalize su a d e (sd.set i (some (.exh a d e.cls e.fs))) μ = o at q2
          match o, q2 with
          | some (.nx, sd2, μ2), q2 => cases q2; exact fun σ' θ' H' g R' => P _ θ' H' g (R'.unset i)
          | some (.brk, sd2, μ2), q2 => cases q2; exact fun σ' θ' H' g R' => P _ θ' H' g (R'.unset i)
          | some (.ct, sd2, μ2), q2 => cases q2; exact fun σ' θ' H' g R' => P _ θ' H' g (R'.unset i)
          | some (.ret d, sd2, μ2), q2 => cases q2; exact P
      · subst q
        exact ih P
/-- try -/
theorem ps_tryD {T : Str → Str → Option Bool} (hT : ExT X.K X.mg T) {body : List Stmt} {h₀ : ExceptHandler} {hds : List ExceptHandler} {l : List Hd} {l2 : List Cl} {pos : Pos} {fs : SS} (hst : X.stack = X.env :: X.outer) (hfm : X.env.frame = some X.env.locals) (hN : X.N.Nodup) (tk : Takes X W)
    (hbd : ∀ (W2 : WX) (pn : List (Addr × Obj)) (xe : Value → Shared → Prop), Takes (X.tr pn xe) W2 → PassesOwn (model X.prog X.w) X.A X.env xe → PSs (X.tr pn xe) body (tS X.K X.mg H0 W2 fs))
    (hk : HdsAt X H0 (h₀ :: hds) l l2) :
    PS X (.Try body (h₀ :: hds) [] [] pos) (tS X.K X.mg H0 W (sTry T fs l)) := by
  refine wkS (ps_tryC (Wo := W) hst hfm hN tk hbd hk.ok) fun E σ H ⟨av, θ, sd, μ, R, P⟩ => ⟨av, θ, sd, μ, R, ?_⟩
  unfold sTry at P
  match hq : fs sd μ, P with
  | none, P => exact P
  | some (.nx, sd1, μ1), P => exact P
  | some (.brk, sd1, μ1), P => exact P
  | some (.ct, sd1, μ1), P => exact P
  | some (.ret d, sd1, μ1), P => exact P
  | some (.exc e, sd1, μ1), P =>
    intro cls dd σ' θ' H' g R' r
    refine pick_ok hT hk R' r ?_ (PostS.rebase P g)
    have own : ∀ {q : Hd} {l' : List Hd}, PostS X.K X.mg H0 W av θ H E (pickS T (q :: l') e sd1 μ1) → ∃ c, X.mg e.cls = some (.ref c) := fun {q l'} P => by
      unfold pickS at P
      cases hb : T e.cls q.x with
      | none => rw [hb] at P; exact P.elim
      | some b => exact (hT _ _ _ hb).1
    cases hk with
    | one hc hs r => exact own P
    | as hc hi hln hs r => exact own P
end
end DL
set_option Elab.async false
set_option linter.all false
set_option maxRecDepth 100000
/-! DL, part r: what a suite asks of the exception. -/
namespace DLX
open PySem PySem.Spec PyProof.Rows PySem.W PySem.Calls L2
section
variable {prog : Program} {w : World} {A : Around} {E : Value → Shared → Prop} {s : Shared} {K : Frag} {x C : Addr} {ox : Obj} {od : Option Obj}
/-- the class object.__class__ answers, an own dict or none -/
theorem find_class (z : ExcC K C) : findObj K C od "__class__" = some (.bind (.builtin "getset_descriptor.__get__") (.builtin "object.__class__")) := by
  obtain ⟨cd, h1, _⟩ := any_some z.hd
  unfold findObj
  rw [h1, Option.bind_some, z.ha, Option.bind_some]
  simp [z.hn, z.ht]
theorem ask_class {Q : Option Value → Shared → Prop} (z : ExcC K C) (kin : K.In s.heap) (at_ : InstAt s.heap x ox C od) (q : Q (some (.ref C)) { s with toks := s.toks + 1 }) : wpAny (model prog w) A (getAttr? (.ref x) "__class__") Q E s := by
  obtain ⟨hp, gs, dr, tk, os⟩ := s
  have t0 := at_.type (M := model prog w)
  have t1 := looks_findIn (M := model prog w) kin z.hg
  have t2 := looks_findIn (M := model prog w) kin z.hk
  have t3 := looks_find (M := model prog w) kin at_ (find_class (od := od) z)
  have t4 : Looks (model prog w) hp (isInstance (.ref x) (.type "BaseException")) true := t0.andThen (looks_subIn kin z.hs)
  have n1 : (Value.builtin "BaseException.__getattribute__" == Value.builtin "object.__getattribute__") = false := by decide +kernel
  have n2 : (onTheHeap (Value.ref C) && Value.builtin "BaseException.__getattribute__" == Value.builtin "object.__getattribute__") = false := by rw [n1, Bool.and_false]
  unfold getAttr? getAttrBy? getAttrBy
  refine wpAny_bind (wpAny_mkText (wpAny_bind (wpAny_attempt (wpAny_holding (wpAny_bind (t0.at (wpAny_bind (t1.at ?_))))))))
  show wpAny _ _ (if (onTheHeap (Value.ref C) && Value.builtin "BaseException.__getattribute__" == Value.builtin "object.__getattribute__") = true then _ else _) _ _ _
  rw [n2, if_neg Bool.false_ne_true]
  unfold getAttrByItsOwn hookBefore
  refine wpAny_bind ?_
  rw [if_pos (show onTheHeap (Value.ref C) = true from rfl)]
  refine t2.at (wpAny_bind (wpAny_attempt (wpAny_holding ?_)))
  unfold callGetattribute
  rw [show (false && onTheHeap (Value.builtin "BaseException.__getattribute__")) = false from rfl, if_neg Bool.false_ne_true]
  unfold boundAndCalled
  rw [PySem.F.excAttr_ValueError.ga.bind (.ref x)]
  refine wpAny_bind (wpAny_pure ?_)
  show wpAny _ _ (call (.builtin "BaseException.__getattribute__") [.ref x, .str "__class__" tk]) _ _ _
  refine wpAny_call (codeAny_call_builtin PySem.F.excAttr_ValueError.ga.plain PySem.F.entry_bexc_ga (@check_slot (model prog w) _ _ ⟨hp, gs, dr, tk + 1, os⟩ "BaseException.__getattribute__" "BaseException" "__getattribute__" (.ref x) [.str "__class__" tk] [] _ (by decide +kernel) (by decide +kernel) t4 (PySem.F.args_bexc_ga (.ref x) (.str "__class__" tk)) ?_))
  unfold Builtin.«object.__getattribute__»
  refine wpAny_bind (wpAny_of_eq (a := ((Value.ref x : Value), [Value.str "__class__" tk])) (by first | rfl | (simp only [slotArgs]; rfl)) (wpAny_bind (wpAny_pure (wpAny_bind (t0.at (wpAny_bind (t3.at ?_)))))))
  show wpAny _ _ (holding [Value.builtin "object.__class__"] (call (.builtin "getset_descriptor.__get__") [.builtin "object.__class__", .ref x, .ref C]) >>= ret) _ _ _
  refine wpAny_bind (wpAny_holding (wpAny_call (class_get (s := ⟨hp, gs, dr, tk + 1, os⟩) (ox := ox) (od := od) kin at_ z.hm (wpAny_pure ?_))))
  show wpAny _ _ (handedOut (.ref C)) _ _ _
  rw [handedOut_of (v := .ref C) rfl]
  first
    | exact wpAny_pure (wpAny_pure q)
    | exact wpAny_pure q
    | exact wpAny_pure (wpAny_bind (wpAny_pure (wpAny_pure q)))
theorem kitx (z : ExcC K C) : KitX K (.ref x) (.ref C) (fun h => InstAt h x ox C od) where
  ty := fun _ _ _ at_ => at_.type
  it := fun _ _ kin _ => by
    obtain ⟨cd, hc, _⟩ := any_some z.hd
    unfold clsIn at hc
    split at hc
    · rename_i ho
      intro A' Q' E' s' k q
      unfold isType loadHead
      exact wpAny_bind (wpAny_loadPart (k _ _ (kin _ _ ho)) (wpAny_pure q))
    · cases hc
  ne := fun h tp dd its n sl kin htp => by
    obtain ⟨cd, hc, _⟩ := any_some z.hd
    refine Bool.eq_false_iff.mpr fun q => ?_
    obtain rfl : C = tp := Value.ref.inj (beq_iff_eq.mp q)
    unfold clsIn at hc
    split at hc
    · rename_i ho
      have := (kin _ _ ho).symm.trans htp
      cases this
    · cases hc
  ca := fun kin at_ k => ask_class z kin at_ k
end
end DLX
namespace DL
open PySem PySem.Spec PyProof.Rows L2
def eXf (xfT : Str → Str → Bool) (a d : Addr) (e : Exn) (f : Str) (fo : EE) : EE := fun sd μ => if xfT e.cls f = true then bE (fo sd μ) fun x μ1 => match x with
  | .exh b c C fs => if b = a ∧ c = d ∧ C = e.cls then (fs.lookup f).bind fun v => if notNew v = true then some (.ok v, μ1) else none else none
  | _ => none
  else none
def XfT (K : PySem.W.Frag) (mg : Mg) (T : Str → Str → Bool) : Prop := ∀ x f, T x f = true → ∀ c, mg x = some (.ref c) → XfC K c ∧ PySem.W.findIn K (.ref c) f = some none
section
variable {X : Cx} {H0 : Hp} {av θ : List Addr} {sd : Sl} {μ : Mem} {σ : L2.St} {H : Hp}
theorem repF_look {K : PySem.W.Frag} {mg : Mg} {f : Str} {d : D} : ∀ {ds : List (Str × D)} {xs : List (Str × V)}, repF K mg H0 av θ H ds xs → ds.lookup f = some d → ∃ v, xs.lookup f = some v ∧ rep K mg H0 av θ H d v
  | [], _, _, q => by cases q
  | (g, e) :: ds, _, ⟨x, rr, hx, h, t⟩, q => by
    subst hx
    simp only [List.lookup] at q ⊢
    split at q
    · cases q
      exact ⟨x, rfl, h⟩
    · exact repF_look t q
theorem pd_xf {T : Str → Str → Bool} (hT : XfT X.K X.mg T) {a c dd : Addr} {oe : Obj} {e : Exn} {pn : List (Addr × Obj)} {ex : Expr} {fo : EE} {pos : Pos} {n : Str} (hm : X.mg e.cls = some (.ref c)) (hz : Zc (.ref c) (some dd) oe) (hf : ∃ vs, oe.data = .fields vs)
    (he : PE (X.suite a ((a, oe) :: pn)) ex (tE X.K X.mg H0 WF fo)) (hb : attributeBase ex n X.env (eval ex X.env) = eval ex X.env := by rfl) :
    PE (X.suite a ((a, oe) :: pn)) (.Attribute ex n pos) (tE X.K X.mg H0 WF (eXf T a dd e n fo)) := by
  by_cases hx : T e.cls n = true
  case neg =>
    refine wkE (t := fun _ _ _ => False) ⟨fun _ _ _ _ _ _ q => q.elim⟩ fun σ H Q ⟨av, θ, sd, μ, R, P⟩ => ?_
    unfold eXf at P
    rw [if_neg hx] at P
    exact P
  case pos =>
    obtain ⟨h1, h2⟩ := hT _ _ hx _ hm
    refine wkE (pe_xf h1 h2 hz hf he hb) fun σ H Q ⟨av, θ, sd, μ, R, P⟩ => ⟨av, θ, sd, μ, R, ?_⟩
    unfold eXf at P
    rw [if_pos hx] at P
    refine P.bind antiD fun x μ1 v θ1 H1 nv g R1 r1 P1 => ?_
    cases x with
    | exh b c' C fs =>
      have P2 : Post X.K X.mg H0 WF (relD X.K X.mg H0) av θ1 sd σ H1 Q (if b = a ∧ c' = dd ∧ C = e.cls then (fs.lookup n).bind fun v => if notNew v = true then some (.ok v, μ1) else none else none) := P1
      by_cases q : b = a ∧ c' = dd ∧ C = e.cls
      case neg => rw [if_neg q] at P2; exact P2.elim
      rw [if_pos q] at P2
      obtain ⟨rfl, rfl, rfl⟩ := q
      cases hl : fs.lookup n with
      | none => rw [hl] at P2; exact P2.elim
      | some y =>
        rw [hl] at P2
        obtain ⟨c2, vs, ev, n1, n2, hc2, t, r⟩ := r1.1
        obtain ⟨u, lu, ru⟩ := repF_look r hl
        have P3 : Post X.K X.mg H0 WF (relD X.K X.mg H0) av θ1 sd σ H1 Q (if notNew y = true then some (.ok y, μ1) else none) := P2
        by_cases hn : notNew y = true
        case neg => rw [if_neg hn] at P3; exact P3.elim
        rw [if_pos hn] at P3
        refine ⟨ev, rfl, _, vs, u, rfl, t, lu, P3 u θ1 H1 [] Gr.refl R1.plain ⟨ru, fun ds q => ?_⟩⟩
        subst q
        cases hn
    | _ => exact P1.elim
/-- isinstance(e, C) -/
def gIsE (T : Str → Str → Option Bool) (T2 : Str → String → Option Bool) (a d : Addr) (C : Str) : Mem → List D → Option D := fun _ ds => match ds with
  | [.exh b c C' _, .glob y] => if b = a ∧ c = d ∧ C' = C then (T C y).map .bl else none
  | [.exh b c C' _, .ty y] => if b = a ∧ c = d ∧ C' = C then (T2 C y).map .bl else none
  | _ => none
def KiT (K : PySem.W.Frag) (mg : Mg) (T : Str → Str → Option Bool) (T2 : Str → String → Option Bool) : Prop := (∀ x y b, T x y = some b → ∀ c, mg x = some (.ref c) → ExcC K c ∧ ∀ e, mg y = some (.ref e) → PySem.W.kitOne K (.ref c) (.ref e) = some b) ∧
  ∀ x (y : String) b, T2 x y = some b → ∀ c, mg x = some (.ref c) → ExcC K c ∧ PySem.W.kitOne K (.ref c) (.type y) = some b
def rIsD (K : PySem.W.Frag) (c a dd : Addr) : List V → Hp → VK → Prop := fun xs H Q => ∃ (v : V) (cv : Value) (b : Bool) (fs : List (Str × V)), xs = [.ref a, v] ∧ (∀ u, RelV v u → u = cv) ∧ ExcC K c ∧ PySem.W.kitOne K (.ref c) cv = some b ∧ H dd = some (.xd fs) ∧ Q (.bl b) H
theorem call_isD {a c dd : Addr} {oe : Obj} {pn : List (Addr × Obj)} (hz : Zc (.ref c) (some dd) oe) (hf : ∃ vs, oe.data = .fields vs) : CallR (X.suite a ((a, oe) :: pn)) (.builtin "isinstance") (rIsD X.K c a dd) := by
  intro pins s σ H xs us Q I r ⟨v, cv, b, fs, e1, hcv, hC, hk, hd, q⟩
  subst e1
  cases r with
  | cons rx rr =>
    cases rr with
    | cons rt rr =>
      cases rr
      cases rx
      obtain rfl := hcv _ rt
      obtain ⟨ho, _⟩ := I.pin (a, oe) (List.mem_append.mpr (.inl List.mem_cons_self))
      obtain ⟨vs, hv⟩ := hf
      obtain ⟨mA, hns, _⟩ := (show ObjOk X.prog X.w H s.heap dd (.xd fs) from I.hok dd _ hd)
      obtain ⟨od, ho2, _⟩ := lookIn_ns hns
      have J : PySem.W.InstAt s.heap a oe c (some od) := ⟨ho, hz.1, by unfold PySem.W.notCls; rw [hv] <;> rfl, by rw [hz.2]; exact ho2⟩
      exact PySem.W.kia_one (DLX.kitx hC) I.kIn J hk (fun z => nomatch z) fun tk => ⟨.bl b, H, I.kept (t' := tk) fun _ _ z => z, rfl, q⟩
theorem cd_isE {T : Str → Str → Option Bool} {T2 : Str → String → Option Bool} (hT : KiT X.K X.mg T T2) {a c dd : Addr} {oe : Obj} {e : Exn} {pn : List (Addr × Obj)} (hm : X.mg e.cls = some (.ref c)) (hz : Zc (.ref c) (some dd) oe) (hf : ∃ vs, oe.data = .fields vs) :
    CallD (X.suite a ((a, oe) :: pn)) (.builtin "isinstance") (gIsE T T2 a dd e.cls) := fun H0 => ⟨_, call_isD hz hf, fun av θ sd μ σ H ds xs d Q R rx hg q => by
  unfold gIsE at hg
  split at hg
  · split at hg
    · rename_i b c' C' fs y h
      obtain ⟨rfl, rfl, rfl⟩ := h
      cases hb : T e.cls y with
      | none => rw [hb] at hg; cases hg
      | some k =>
        rw [hb] at hg
        cases hg
        obtain ⟨h1, h2⟩ := hT.1 _ _ _ hb _ hm
        obtain ⟨x, r1, e1, hx, x2, r2, e2, hy, e3⟩ := rx
        subst e1 e2
        have e3 : r2 = [] := e3
        subst e3
        obtain ⟨c2, vs, ev, n1, n2, hc2, t, r⟩ := hx
        obtain ⟨ya, ey, my⟩ := hy
        subst ev ey
        exact ⟨.ref ya, .ref ya, k, vs, rfl, fun u hu => hu, h1, h2 _ my, t, q.same R rfl (fun _ z => by cases z)⟩
    · cases hg
  · split at hg
    · rename_i b c' C' fs y h
      obtain ⟨rfl, rfl, rfl⟩ := h
      cases hb : T2 e.cls y with
      | none => rw [hb] at hg; cases hg
      | some k =>
        rw [hb] at hg
        cases hg
        obtain ⟨h1, h2⟩ := hT.2 _ _ _ hb _ hm
        obtain ⟨x, r1, e1, hx, x2, r2, e2, hy, e3⟩ := rx
        subst e1 e2
        have e3 : r2 = [] := e3
        subst e3
        obtain ⟨c2, vs, ev, n1, n2, hc2, t, r⟩ := hx
        have hy : x2 = .ty y := hy
        subst ev hy
        exact ⟨.ty y, .type y, k, vs, rfl, fun u hu => hu, h1, h2, t, q.same R rfl (fun _ z => by cases z)⟩
    · cases hg
  · cases hg⟩
/-- a class of the text, by its name -/
theorem pd_cls {W : WX} {x : Str} {pos : Pos} (h : ∃ a, X.mg x = some (.ref a)) (hg : Gl X x := by rfl) (hd : (x == ("__debug__" : Str)) = false := by decide) : PE X (.Name x pos) (tE X.K X.mg H0 W (eC (.glob x))) := by
  obtain ⟨a, ha⟩ := h
  exact pd_c (pe_glob (v := .ref a) hg ha rfl hd) (fun _ _ _ => ⟨a, rfl, ha⟩) (fun _ e => by cases e)
end
end DL
set_option Elab.async false
set_option linter.all false
set_option maxRecDepth 100000
/-! DL, part s: while, with at most n rounds. -/
namespace DL
open PySem PySem.Spec PyProof.Rows L2
def whF (t : ET) (b u : SS) : Nat → SS
  | 0, _, _ => none
  | n + 1, sd, μ => match t sd μ with
    | none => none
    | some (.error e, μ1) => some (.exc e, sd, μ1)
    | some (.ok false, μ1) => u sd μ1
    | some (.ok true, μ1) => match b sd μ1 with
      | some (.nx, sd2, μ2) => whF t b u n sd2 μ2
      | some (.ct, sd2, μ2) => whF t b u n sd2 μ2
      | some (.brk, sd2, μ2) => some (.nx, sd2, μ2)
      | r => r
section
variable {X : Cx} {H0 : Hp} {W : WX} {t : ET} {fs gs : SS}
theorem ps_whileD (n : Nat) {c : Expr} {body orelse : List Stmt} {pos : Pos} (hp : PassesOwn (model X.prog X.w) X.A X.env X.xe) (hc : PT X c (tT X.K X.mg H0 W t)) (hb : PSs X body (tS X.K X.mg H0 W fs)) (ho : PSs X orelse (tS X.K X.mg H0 W gs)) :
    PS X (.While c body orelse pos) (tS X.K X.mg H0 W (whF t fs gs n)) := by
  refine wkS (ps_whileE hp hc hb ho) fun E σ H ⟨av, θ, sd, μ, R, P⟩ => ?_
  refine ⟨fun m σi Hi => ∃ θi sdi μi, Gr θ θi H Hi ∧ RS X.K X.mg H0 av θi sdi μi σi Hi ∧ PostS X.K X.mg H0 W av θi Hi E (whF t fs gs m sdi μi), ⟨n, θ, sd, μ, Gr.refl, R, P⟩, ?_⟩
  rintro m σi Hi ⟨θi, sdi, μi, gi, Ri, Pi⟩
  cases m with
  | zero => exact Pi.elim
  | succ m =>
    unfold whF at Pi
    refine ⟨av, θi, sdi, μi, Ri, ?_⟩
    match hq : t sdi μi, Pi with
    | none, Pi => exact Pi
    | some (.error e, μ1), Pi => exact fun cls dd θ' H' g' R' r => Pi cls dd σi θ' H' g' R' r
    | some (.ok false, μ1), Pi =>
      intro y θ' H' nv g' R' hy
      have hy : y = false := hy
      subst hy
      exact ⟨av, θ', sdi, μ1, R'.plain, PostS.rebase Pi g'⟩
    | some (.ok true, μ1), Pi =>
      intro y θ' H' nv g' R' hy
      have hy : y = true := hy
      subst hy
      have R1 := R'.plain
      refine ⟨fun σ2 H2 => ∃ θ2 sd2 μ2, Gr θ θ2 H H2 ∧ RS X.K X.mg H0 av θ2 sd2 μ2 σ2 H2 ∧ PostS X.K X.mg H0 W av θ2 H2 E (whF t fs gs m sd2 μ2), fun σ2 H2 z => ⟨m, Nat.lt_succ_self m, z⟩, av, θ', sdi, μ1, R1, ?_⟩
      simp only at Pi
      match hb2 : fs sdi μ1, Pi with
      | none, Pi => exact Pi
      | some (.nx, sd4, μ4), Pi => exact fun σ5 θ5 H5 g5 R5 => ⟨θ5, sd4, μ4, gi.trans (g'.trans g5), R5, PostS.rebase Pi (g'.trans g5)⟩
      | some (.ct, sd4, μ4), Pi => exact fun σ5 θ5 H5 g5 R5 => ⟨θ5, sd4, μ4, gi.trans (g'.trans g5), R5, PostS.rebase Pi (g'.trans g5)⟩
      | some (.brk, sd4, μ4), Pi => exact PostS.rebase Pi g'
      | some (.ret d, sd4, μ4), Pi => exact Pi
      | some (.exc x, sd4, μ4), Pi => exact PostS.rebase Pi g'
end
end DL
set_option Elab.async false
set_option linter.all false
set_option maxRecDepth 100000
/-! DL, part t: texts, pop. -/
namespace DL
open PySem PySem.Spec PyProof.Rows L2
section
variable {X : Cx} {H0 : Hp} {W : WX} {av θ : List Addr} {sd : Sl} {μ : Mem} {σ : L2.St} {H : Hp}
/-! ### one sign in a text -/
def sgn (a : Str) : Option Nat := match a.cps.toList with
  | [c] => some c
  | _ => none
theorem sgn_ok {a : Str} {c : Nat} (h : sgn a = some c) : a = ⟨#[c]⟩ := by
  unfold sgn at h
  split at h
  · rename_i c' e
    cases h
    obtain ⟨cs⟩ := a
    have e : cs.toList = [c] := e
    obtain ⟨l⟩ := cs
    have e : l = [c] := e
    subst e
    rfl
  · cases h
def gInS (neg : Bool) : Mem → D → D → Option D := fun _ x y => match x, y with
  | .str a, .str z => (sgn a).map fun c => .bl (if neg then !decide (c ∈ z.cps.toList) else decide (c ∈ z.cps.toList))
  | _, _ => none
theorem inS_ask {neg : Bool} {dx dy d : D} {x y : V} {Q : VK} (R : RS X.K X.mg H0 av θ sd μ σ H) (rx : rep X.K X.mg H0 av θ H dx x) (ry : rep X.K X.mg H0 av θ H dy y) (hg : gInS neg μ dx dy = some d) (q : Asks X H0 av θ sd μ σ H d Q) :
    ∃ (c : Nat) (z : Str), x = .str ⟨#[c]⟩ ∧ y = .str z ∧ Q (.bl (if neg then !decide (c ∈ z.cps.toList) else decide (c ∈ z.cps.toList))) H := by
  unfold gInS at hg
  split at hg
  · rename_i a z
    cases hs : sgn a with
    | none => rw [hs] at hg; cases hg
    | some c =>
      rw [hs] at hg
      cases hg
      have rx : x = .str a := rx
      have ry : y = .str z := ry
      subst rx ry
      exact ⟨c, z, by rw [sgn_ok hs], rfl, q.same R rfl (fun _ e => by cases e)⟩
  · cases hg
theorem od_inS : OpD X (compareOp .In) (gInS false) := fun H0 => ⟨_, op_in_sign, fun _ _ _ _ _ _ _ _ _ _ _ _ R rx ry hg q => inS_ask R rx ry hg q⟩
theorem od_notInS : OpD X (compareOp .NotIn) (gInS true) := fun H0 => ⟨_, op_notIn_sign, fun _ _ _ _ _ _ _ _ _ _ _ _ R rx ry hg q => inS_ask R rx ry hg q⟩
/-! ### str(..), int(..) -/
noncomputable def g1Str : Mem → D → Option D := fun _ x => match x with
  | .int i => when_ (i.natAbs.log2 < 1920) (some (.str (toString i)))
  | .str a => some (.str a)
  | _ => none
noncomputable def gStr := c1 g1Str
theorem cd_str : CallD X (.type "str") gStr := cd1 (CallR.or call_str_int SkE.call_str_str) fun H0 av θ sd μ σ H dx x d Q R rx hg q => by
  cases dx with
  | int i =>
    obtain ⟨h, hg⟩ := when_some (show when_ _ _ = some d from hg)
    cases hg
    have rx : x = .int i := rx
    subst rx
    exact .inl ⟨i, rfl, h, q.same R rfl (fun _ e => by cases e)⟩
  | str a =>
    cases hg
    have rx : x = .str a := rx
    subst rx
    exact .inr ⟨a, rfl, q.same R rfl (fun _ e => by cases e)⟩
  | _ => cases hg
noncomputable def g1IntS : Mem → D → Option D := fun _ x => match x with
  | .str a => (PySem.intText? a).bind fun n => when_ (a.length ≤ 640) (some (.int n))
  | _ => none
noncomputable def gIntS := c1 g1IntS
theorem cd_intS : CallD X (.type "int") gIntS := cd1 call_int_str fun H0 av θ sd μ σ H dx x d Q R rx hg q => by
  cases dx with
  | str a =>
    have hg : ((PySem.intText? a).bind fun n => when_ (a.length ≤ 640) (some (D.int n))) = some d := hg
    cases hn : PySem.intText? a with
    | none => rw [hn] at hg; cases hg
    | some n =>
      rw [hn] at hg
      obtain ⟨h, hg⟩ := when_some (show when_ _ _ = some d from hg)
      cases hg
      have rx : x = .str a := rx
      subst rx
      exact ⟨a, n, rfl, hn, h, q.same R rfl (fun _ e => by cases e)⟩
  | _ => cases hg
noncomputable def gIntA : Mem → List D → Option D := fun μ x => (gInt μ x).or (gIntS μ x)
theorem cd_intA : CallD X (.type "int") gIntA := cd_int.or cd_intS
/-! ### a text's methods -/
def eMs (g : Mem → D → List D → Option D) (f : EE) (a : EA) : EE := fun sd μ => bE (f sd μ) fun x μ1 => match x with
  | .str z => bE (a sd μ1) fun ds μ2 => (g μ2 (.str z) ds).map fun d => (.ok d, μ2)
  | _ => none
theorem pd_ms {o e : Expr} {es : List Expr} {name : Str} {id : String} {apos cpos : Pos} {g : Mem → D → List D → Option D} {f : EE} {ga : EA} (slot : Slot "str" name id) (hty : typeOf (.builtin id) = pure (.type "method_descriptor")) (hm : MtD X id g)
    (ho : PE X o (tE X.K X.mg H0 W f)) (ha : PA X (e :: es) (tA X.K X.mg H0 W ga))
    (hbase : attributeBase o name X.env (eval o X.env) = eval o X.env := by rfl)
    (hfew : ((backTo cpos (starEach (e :: es) X.env)).all (fun x => !x.1) && (backToKw cpos (keywordEach [] X.env)).all (fun x => x.1.isSome)
      && decide ((e :: es).length + ([] : List Keyword).length + (if ([] : List Keyword).isEmpty then 0 else 1) < 30)) = true := by rfl)
    (hline : (apos.endLine == cpos.line) = true := by rfl) (hs : starEach (e :: es) X.env = (false, eval e X.env) :: starEach es X.env := by rfl) (hplain : (backTo cpos (starEach es X.env)).any (·.1) = false := by rfl) :
    PE X (.Call (.Attribute o name apos) (e :: es) [] cpos) (tE X.K X.mg H0 W (eMs g f ga)) := by
  obtain ⟨r, hr, k⟩ := hm H0
  refine wkE (pe_bm PySem.F.plainAttrs_str slot hty hr ho ha hbase hfew hline hs hplain) fun σ H Q ⟨av, θ, sd, μ, R, P⟩ => ⟨av, θ, sd, μ, R, P.bind antiD fun x μ1 v θ1 H1 nv g1 R1 r1 P1 => ?_⟩
  cases x with
  | str z =>
    have r1 : v = .str z := r1.1
    subst r1
    refine ⟨rfl, av, θ1, sd, μ1, R1.plain, P1.bind antiD fun ds μ2 vs θ2 H2 nw g2 R2 r2 P2 => ?_⟩
    obtain ⟨d, hd, q⟩ := P2.ask
    exact k av θ2 sd μ2 σ H2 (.str z) (.str z) ds vs d Q R2.plain rfl r2 hd q
  | _ => exact P1.elim
def strD : D → Option Str
  | .str z => some z
  | _ => none
theorem str_rep : ∀ d v i, rep X.K X.mg H0 av θ H d v → strD d = some i → v = V.str i := fun d v i r h => by
  cases d <;> first | (cases h; exact r) | cases h
noncomputable def gJoin : Mem → D → List D → Option D := fun μ x ds => match x, ds with
  | .str a, [d] => (sqAny μ d).bind fun es => (allD strD es).bind fun ys => when_ ((ys.map (·.length)).sum + ys.length * a.length ≤ 16777216) (some (.str (Txt.join a ys)))
  | _, _ => none
theorem mt_joinD : MtD X "str.join" gJoin := fun H0 => ⟨_, mt_join, fun av θ sd μ σ H dx x ds xs d Q R rx rl hg q => by
  unfold gJoin at hg
  split at hg
  · rename_i a dd
    obtain ⟨v, rr, e1, ry, e2⟩ := rl
    have e2 : rr = [] := e2
    subst e2 e1
    have rx : x = .str a := rx
    subst rx
    cases h1 : sqAny μ dd with
    | none => rw [h1] at hg; cases hg
    | some es =>
      rw [h1] at hg
      simp only [Option.bind_some] at hg
      cases h2 : allD strD es with
      | none => rw [h2] at hg; cases hg
      | some ys =>
        rw [h2] at hg
        obtain ⟨h3, hg⟩ := when_some (show when_ _ _ = some d from hg)
        cases hg
        obtain ⟨p, zs, e, t, r⟩ := sqAny_at R ry h1
        have ez := all_rep str_rep r h2
        subst ez
        exact ⟨a, p, ys, rfl, by rw [e], t, h3, q.same R rfl (fun _ e => by cases e)⟩
  · cases hg⟩
/-! ### pop -/
def muPop : Mem → D → List D → Option (D × Mem) := fun μ x ds => match x, ds with
  | .ref n, [] => match μ[n]? with
    | some (.lst es) => (es[es.length - 1]?).bind fun d => if notNew d = true then some (d, μ.set n (.lst es.dropLast)) else none
    | _ => none
  | _, _ => none
theorem repL.dropLast {K : PySem.W.Frag} {mg : Mg} {ds : List D} {vs : List V} (h : repL K mg H0 av θ H ds vs) : repL K mg H0 av θ H ds.dropLast vs.dropLast := by
  rw [List.dropLast_eq_take, List.dropLast_eq_take, repL.length h]
  exact repL.take' _ h
theorem mu_pop : MuD X "list.pop" muPop := fun H0 => by
  refine ⟨_, mt_pop, fun av θ sd μ σ H dx x ds xs d μ' Q R rx rl hg q => ?_⟩
  unfold muPop at hg
  split at hg
  · rename_i n
    obtain ⟨a, rfl, hn⟩ := rx
    have rl : xs = [] := rl
    subst rl
    split at hg
    · rename_i es hm
      cases hl : es[es.length - 1]? with
      | none => rw [hl] at hg; cases hg
      | some y =>
        rw [hl] at hg
        have hg : (if notNew y = true then some (y, μ.set n (.lst es.dropLast)) else none) = some (d, μ') := hg
        split at hg
        · rename_i hy
          cases hg
          obtain ⟨ys, t, rs⟩ := R.mem n _ a hm hn
          obtain ⟨v, hv, rv⟩ := repL.get rs hl
          have ha : a ∈ θ := List.mem_of_getElem? hn
          refine ⟨a, ys, v, rfl, rfl, t, by rw [repL.length rs]; exact hv, ?_⟩
          have g0 : Gr θ θ H (upd H a (.lst ys.dropLast)) := ⟨List.prefix_refl _, fun b h m => absurd h m, fun b u m e => by rw [upd_ne (fun z => m (by rw [z]; exact ha))]; exact e⟩
          obtain ⟨g, R'⟩ := R.setO hn (mo := .lst es.dropLast) (o := .lst ys.dropLast) ⟨_, upd_same, repL.gr g0 _ _ rs.dropLast⟩
          exact q v _ [] g R' ⟨repG g0 rv, fun ds e => by subst e; cases hy⟩
        · cases hg
    · cases hg
  · cases hg
end
end DL
set_option Elab.async false
set_option linter.all false
set_option maxRecDepth 100000
/-! DL, part u: the head's facts with own errors. -/
namespace DL
open PySem PySem.Spec PyProof.Rows L2 He
/-- an own error: its name, its __init__, its fields -/
structure ErrD where
  x : Str
  qual : Str
  st : Stmt
  fs : List Str
abbrev FnZ : Type := Option (Str × Str × Arguments × FuncBody × Scope × Addr × List Str × Value × Addr)
def fnZ (K : PySem.W.Frag) (x : Str) : FnZ := match K.lookup (ma K (ga K x) "__init__") with
  | some ⟨_, _, .func fd, _⟩ => some (fd.name, fd.qualname, fd.params, fd.body, fd.scope, fd.globals, fd.closure.map (·.1), fd.defaults, fd.builtins)
  | _ => none
def ErrD.val (d : ErrD) : FnZ := some ("__init__", d.qual, defArgs d.st, .stmts (defBody d.st), defScope d.st, mainGlobals, ["__class__"], .none, builtinsNs)
def oexB (K : PySem.W.Frag) (C : Addr) : Bool := (match K.lookup C with
  | some ⟨.type "type", _, .cls cd, sl⟩ => (match cd.mro, sl.toList with
    | .ref C' :: bm, [_, _, _, _, some (.builtin n), _] => C' == C && n == "ValueError.__new__" && !cd.hasDel && cd.hasDict && PySem.HandSPX.refsVE bm
    | _, _ => false)
  | _ => false) && (decide (PySem.W.findIn K (.ref C) "__setattr__" = some (some (.builtin "object.__setattr__"))) && (decide (PySem.W.subIn K (.ref C) (.type "BaseException") = some true) && (decide (PySem.W.typeIn K (.ref C) = some (.type "type")) && PySem.W.keepIn K (.ref C))))
theorem oexB_ok {K : PySem.W.Frag} {C : Addr} (h : oexB K C = true) : OexC K C := by
  obtain ⟨h1, h⟩ := ba h
  obtain ⟨h2, h⟩ := ba h
  obtain ⟨h3, h⟩ := ba h
  obtain ⟨h4, h5⟩ := ba h
  refine ⟨?_, of_decide_eq_true h2, of_decide_eq_true h3, of_decide_eq_true h4, h5⟩
  split at h1
  · rename_i od cd sl lk
    split at h1
    · rename_i C' bm s0 s1 s2 s3 n s5 em es
      simp only [Bool.and_eq_true, beq_iff_eq, Bool.not_eq_true'] at h1
      obtain ⟨⟨⟨⟨rfl, rfl⟩, hd⟩, hdict⟩, hr⟩ := h1
      obtain ⟨nm, bs, mro, ns, q, hasDict, sn, sub, ab, col, del⟩ := cd
      dsimp only at em hd hdict
      subst em hd hdict
      obtain ⟨l⟩ := sl
      have es : l = [s0, s1, s2, s3, some (.builtin "ValueError.__new__"), s5] := es
      subst es
      exact ⟨_, _, _, _, _, _, _, _, _, _, _, _, _, _, _, lk, hr⟩
    · cases h1
  · cases h1
/-- what the head's look tells of an own error -/
def errB (file : Str) (K : PySem.W.Frag) (d : ErrD) : Bool :=
  eqO (PySem.W.nsIn K mainGlobals d.x) (some (some (.ref (ga K d.x)))) && (oexB K (ga K d.x) && (eqO (PySem.W.findIn K (.ref (ga K d.x)) "__init__") (some (some (.ref (ma K (ga K d.x) "__init__")))) &&
    (decide (PySem.W.typeIn K (.ref (ma K (ga K d.x) "__init__")) = some (.type "function")) && ((match K.lookup (ma K (ga K d.x) "__init__") with
      | some ⟨_, _, .func fd, _⟩ => (match fd.closure with
        | [(_, cc)] => (match K.lookup cc with
          | some ⟨_, _, .cell (some (.ref D)), _⟩ => D == ga K d.x
          | _ => false)
        | _ => false) && (match fd.code with
          | .ref cda => PySem.W.codeIn K (.ref cda) fd.qualname && (match K.lookup cda with
            | some ⟨_, _, .fields vs, _⟩ => (match (vs[2]? : Option Value) with
              | some (.str z _) => file == z
              | _ => false)
            | _ => false)
          | _ => false)
      | _ => false) && ((PySem.W.clsIn K (ga K d.x)).isSome && (decide (PySem.W.mroIn K (ga K d.x) (.ref (ga K d.x)) = some true) && (eqO (PySem.W.ks_superIn K (ga K d.x) (ga K d.x) "__init__") (some (some (.builtin "ValueError.__init__"))) &&
        (decide (PySem.W.subIn K (.ref (ga K d.x)) (.type "ValueError") = some true) && d.fs.all fun f => eqO (PySem.W.findIn K (.ref (ga K d.x)) f) (some none)))))))))
structure ErrS (P : Program) (K : PySem.W.Frag) (mg : Mg) (d : ErrD) : Prop where
  at_ : mg d.x = some (.ref (ga K d.x))
  T : OexC K (ga K d.x)
  ini : PySem.W.findIn K (.ref (ga K d.x)) "__init__" = some (some (.ref (ma K (ga K d.x) "__init__")))
  ty : PySem.W.typeIn K (.ref (ma K (ga K d.x) "__init__")) = some (.type "function")
  no : ∀ f ∈ d.fs, PySem.W.findIn K (.ref (ga K d.x)) f = some none
  sup : ∃ (F : NdefX.NF) (fd : FuncData), F.name = "__init__" ∧ F.params = defArgs d.st ∧ F.body = defBody d.st ∧ F.scope = defScope d.st ∧ (∃ kV doc pm an ct cc, fd = PySem.W.fnX "__init__" d.qual (defArgs d.st) (defBody d.st) (defScope d.st) [("__class__", cc)] .none kV doc pm an (.ref F.c) ct) ∧
    DLX.SupI P K mg (ga K d.x) (ma K (ga K d.x) "__init__") F fd
theorem errB_ok {P : Program} {K : PySem.W.Frag} {mg : Mg} {h : Heap} (X : K.In h) (G : h.Ns mainGlobals mg) {d : ErrD} (e : errB P.main.file K d = true) (v : fnZ K d.x = d.val) (hs : mg "super" = none) (ht : (P.main.scope.names.lookup ("super" : Str)).isSome = false)
    (hn : (defScope d.st).names.lookup ("super" : Str) = some .globalImplicit) (h3 : PySem.W.nsIn K cStatics "thirdparty.any" = some none) : ErrS P K mg d := by
  unfold errB at e
  obtain ⟨e1, e⟩ := ba e
  obtain ⟨e2, e⟩ := ba e
  obtain ⟨e3, e⟩ := ba e
  obtain ⟨e4, e⟩ := ba e
  obtain ⟨e5, e⟩ := ba e
  obtain ⟨e6, e⟩ := ba e
  obtain ⟨e7, e⟩ := ba e
  obtain ⟨e8, e⟩ := ba e
  obtain ⟨e9, e10⟩ := ba e
  refine ⟨PySem.W.mg_of X G (eqO_ok e1), oexB_ok e2, eqO_ok e3, of_decide_eq_true e4, fun f hf => eqO_ok (List.all_eq_true.mp e10 f hf), ?_⟩
  unfold fnZ at v
  cases lk : K.lookup (ma K (ga K d.x) "__init__") with
  | none => rw [lk] at v; cases v
  | some o =>
    obtain ⟨oc, od, dt, osl⟩ := o
    rw [lk] at v e5
    cases dt with
    | func fd =>
      obtain ⟨n1, n2, n3, n4, n5, n6, n7, n8, n9, n10, n11, n12, n13, n14, n15⟩ := fd
      have v : (some (n1, n2, n3, n4, n5, n6, n7.map (·.1), n8, n15) : FnZ) = d.val := v
      unfold ErrD.val at v
      simp only [Option.some.injEq, Prod.mk.injEq] at v
      obtain ⟨rfl, rfl, rfl, rfl, rfl, rfl, v7, rfl, rfl⟩ := v
      obtain ⟨e51, e52⟩ := ba e5
      dsimp only at e51 e52
      split at e51
      · rename_i nm cc
        simp only [List.map_cons, List.map_nil, List.cons.injEq, and_true] at v7
        subst v7
        split at e51
        · rename_i ccls cdd D csl lc
          have hD : D = ga K d.x := beq_iff_eq.mp e51
          subst hD
          split at e52
          · rename_i cda
            obtain ⟨e53, e54⟩ := ba e52
            split at e54
            · rename_i fcl fdd vs fsl lf
              split at e54
              · rename_i z tz hz
                obtain ⟨cd, hcd⟩ := Option.isSome_iff_exists.mp e6
                exact ⟨⟨"__init__", d.qual, defArgs d.st, defBody d.st, defScope d.st, [("__class__", cc)], cda⟩, _, rfl, rfl, rfl, rfl, ⟨n9, n10, n11, n12, n14, cc, rfl⟩,
                  ⟨⟨oc, od, osl, .none, n9, n10, n11, n12, n14, rfl, lk⟩, ⟨cc, rfl, _, _, _, lc⟩, e53, ⟨_, _, _, _, z, tz, lf, hz, e54⟩, ⟨cd, hcd⟩, of_decide_eq_true e7, eqO_ok e8, of_decide_eq_true e9, h3, hs, ht, hn⟩⟩
              · cases e54
            · cases e54
          · cases e52
        · cases e51
      · cases e51
    | _ => cases v
end DL
set_option Elab.async false
set_option linter.all false
set_option maxRecDepth 100000
/-! DL, part v: own errors ready for use; the hook. -/
namespace DL
open PySem PySem.Spec PyProof.Rows L2 He
section
variable {P : Program} {w : World} {K : PySem.W.Frag} {mg : Mg} {base : Heap} {d : ErrD} {ar : Arg} {s x y g h z : Str} {j : Nat} {p0 p1 p2 p3 p4 p5 p6 p7 p8 p9 q5 q6 q7 q8 q9 : Pos}
theorem errOk1 (E : ErrS P K mg d) (hfs : d.fs = [g]) (S : NdefX.NScope [s, x, "__class__"] [s, x] ["__class__"] (defScope d.st)) (hp : ((defArgs d.st).posonlyargs ++ (defArgs d.st).args).head? = some ar) (hps : some s = some ar.arg)
    (hbody : defBody d.st = [.Expr (.Call (.Attribute (.Call (.Name "super" p0) [] [] p1) "__init__" p2) [.Constant (.str z) j p5] [] p3) p4, .Assign [.Attribute (.Name s p6) g p7] (.Name x p8) p9])
    (hbind : ∀ (kV doc pm : Value) (an : Option Addr) (ct : Value) (cda cc : Addr) (us : List Value), us.length = 2 → bindArgs (PySem.W.fnX "__init__" d.qual (defArgs d.st) (defBody d.st) (defScope d.st) [("__class__", cc)] .none kV doc pm an (.ref cda) ct) ⟨us, []⟩ = pure ([s, x].zip us))
    (hs : (s == ("__debug__" : Str)) = false) (hs2 : (s == ("__classdict__" : Str)) = false) (hx : (x == ("__debug__" : Str)) = false) (hx2 : (x == ("__classdict__" : Str)) = false)
    (hev : ∀ env : Env, ∃ pl : Sem Bool, eval (.Call (.Attribute (.Call (.Name "super" p0) [] [] p1) "__init__" p2) [.Constant (.str z) j p5] [] p3) env = (do
      let ov ← attributeBase (.Call (.Name "super" p0) [] [] p1) "__init__" env (eval (.Call (.Name "super" p0) [] [] p1) env)
      standAt p2.atName
      let (f, first) ← holding [ov] (getMethod ov "__init__" pl)
      callWith p3 f first (backTo p3 (starEach [.Constant (.str z) j p5] env)) []) := by intro _; exact ⟨_, rfl⟩) :
    ErrOk P w K mg base d.x 1 d.fs := by
  obtain ⟨F, fd, hnm, hpa, hbo, hsc, ⟨kV, doc, pm, an, ct, cc, hfd⟩, Z⟩ := E.sup
  have no := E.no g (by rw [hfs]; simp)
  rw [hfs]
  refine ⟨_, _, fd, [s, x], E.at_, E.T, E.ini, E.ty, errF1 Z E.T (by rw [hsc]; exact S) (by rw [hpa]; exact hp) hps (by rw [hbo]; exact hbody) no hs hs2 hx hx2 hev, .all fun us hl => ?_⟩
  rw [hfd]
  exact hbind kV doc pm an ct F.c cc us hl
theorem errOk2 (E : ErrS P K mg d) (hfs : d.fs = [g, h]) (S : NdefX.NScope [s, x, y, "__class__"] [s, x, y] ["__class__"] (defScope d.st)) (hp : ((defArgs d.st).posonlyargs ++ (defArgs d.st).args).head? = some ar) (hps : some s = some ar.arg)
    (hbody : defBody d.st = [.Expr (.Call (.Attribute (.Call (.Name "super" p0) [] [] p1) "__init__" p2) [.Constant (.str z) j p5] [] p3) p4, .Assign [.Attribute (.Name s p6) g p7] (.Name x p8) p9, .Assign [.Attribute (.Name s q6) h q7] (.Name y q8) q9])
    (hbind : ∀ (kV doc pm : Value) (an : Option Addr) (ct : Value) (cda cc : Addr) (us : List Value), us.length = 3 → bindArgs (PySem.W.fnX "__init__" d.qual (defArgs d.st) (defBody d.st) (defScope d.st) [("__class__", cc)] .none kV doc pm an (.ref cda) ct) ⟨us, []⟩ = pure ([s, x, y].zip us))
    (hs : (s == ("__debug__" : Str)) = false) (hs2 : (s == ("__classdict__" : Str)) = false) (hx : (x == ("__debug__" : Str)) = false) (hx2 : (x == ("__classdict__" : Str)) = false) (hy : (y == ("__debug__" : Str)) = false) (hy2 : (y == ("__classdict__" : Str)) = false)
    (hev : ∀ env : Env, ∃ pl : Sem Bool, eval (.Call (.Attribute (.Call (.Name "super" p0) [] [] p1) "__init__" p2) [.Constant (.str z) j p5] [] p3) env = (do
      let ov ← attributeBase (.Call (.Name "super" p0) [] [] p1) "__init__" env (eval (.Call (.Name "super" p0) [] [] p1) env)
      standAt p2.atName
      let (f, first) ← holding [ov] (getMethod ov "__init__" pl)
      callWith p3 f first (backTo p3 (starEach [.Constant (.str z) j p5] env)) []) := by intro _; exact ⟨_, rfl⟩) :
    ErrOk P w K mg base d.x 1 d.fs := by
  obtain ⟨F, fd, hnm, hpa, hbo, hsc, ⟨kV, doc, pm, an, ct, cc, hfd⟩, Z⟩ := E.sup
  have no := E.no g (by rw [hfs]; simp)
  have no2 := E.no h (by rw [hfs]; simp)
  rw [hfs]
  refine ⟨_, _, fd, [s, x, y], E.at_, E.T, E.ini, E.ty, errF2 Z E.T (by rw [hsc]; exact S) (by rw [hpa]; exact hp) hps (by rw [hbo]; exact hbody) no no2 hs hs2 hx hx2 hy hy2 hev, .all fun us hl => ?_⟩
  rw [hfd]
  exact hbind kV doc pm an ct F.c cc us hl
end
/-! ### the Hook: facts, defs, errors, one more look -/
abbrev AlE : Type := AlD × List FnZ × Bool
def obsE2 (n : Nat) (fa : List Fa) (fn : List DefD) (er : List ErrD) (ex : PySem.W.Frag → Bool) (g : Addr → Option Obj) : AlE :=
  let K := frG g (cStatics :: asD g n)
  (obsD fa fn K, er.map (fun d => fnZ K d.x), ex K && eqO (PySem.W.nsIn K cStatics "thirdparty.any") (some none))
def valE2 (fn : List DefD) (er : List ErrD) : AlE := (valD fn, er.map ErrD.val, true)
structure SaysE2 (fa : List Fa) (fn : List DefD) (er : List ErrD) (ex : PySem.W.Frag → Bool) (K : PySem.W.Frag) : Prop where
  d : SaysD fa fn K
  er : er.map (fun d => fnZ K d.x) = er.map ErrD.val
  ex : ex K = true
  th : PySem.W.nsIn K cStatics "thirdparty.any" = some none
def hookE2 (n : Nat) (fa : List Fa) (fn : List DefD) (er : List ErrD) (ex : PySem.W.Frag → Bool) : PySem.W.Hook where
  α := AlE
  obs := fun s => obsE2 n fa fn er ex s.heap.get?
  val := fun _ => valE2 fn er
  says := fun _ h => ∃ K : PySem.W.Frag, K.In h ∧ SaysE2 fa fn er ex K
  of := fun _ h e => ⟨_, frG_in, by
    have e1 := congrArg (fun z : AlE => z.1) e
    have e2 := congrArg (fun z : AlE => z.2.1) e
    have e3 := congrArg (fun z : AlE => z.2.2) e
    obtain ⟨e4, e5⟩ := ba e3
    exact ⟨e1, e2, e4, eqO_ok e5⟩⟩
  keeps := fun _ _ _ ⟨K, hK, c⟩ k => ⟨K, PySem.W.Frag.In.keeps hK k, c⟩
theorem obsE2_eq {n : Nat} {fa : List Fa} {fn : List DefD} {er : List ErrD} {ex : PySem.W.Frag → Bool} {g : Addr → Option Obj} {s : Shared} (h : ∀ a, g a = s.heap.get? a) : obsE2 n fa fn er ex g = (hookE2 n fa fn er ex).obs s := by
  have e : g = s.heap.get? := funext h
  rw [e] <;> rfl
theorem SaysE2.err {fa : List Fa} {fn : List DefD} {er : List ErrD} {ex : PySem.W.Frag → Bool} {K : PySem.W.Frag} (c : SaysE2 fa fn er ex K) (i : Nat) {d : ErrD} (h : er[i]? = some d := by rfl) : fnZ K d.x = d.val := by
  have e : (er.map (fun d => fnZ K d.x))[i]? = (er.map ErrD.val)[i]? := by rw [c.er]
  rw [List.getElem?_map, List.getElem?_map, h] at e
  exact Option.some.inj e
end DL
set_option Elab.async false
set_option linter.all false
set_option maxRecDepth 100000
/-! DL, part w: constants of the module, in, times of texts. -/
namespace DL
open PySem PySem.Spec PyProof.Rows L2
section
variable {X : Cx} {H0 : Hp} {W : WX}
theorem pd_gs {x z : Str} {pos : Pos} (h : ∃ t, X.mg x = some (.str z t)) (hg : Gl X x := by rfl) (hd : (x == ("__debug__" : Str)) = false := by decide) : PE X (.Name x pos) (tE X.K X.mg H0 W (eC (.str z))) := by
  obtain ⟨t, ht⟩ := h
  exact pd_c (pe_glob (v := .str z) hg ht ⟨t, rfl⟩ hd) (fun _ _ _ => rfl) (fun _ e => by cases e)
theorem pd_gi {x : Str} {i : Int} {pos : Pos} (h : ∃ t, X.mg x = some (.int i t)) (hg : Gl X x := by rfl) (hd : (x == ("__debug__" : Str)) = false := by decide) : PE X (.Name x pos) (tE X.K X.mg H0 W (eC (.int i))) := by
  obtain ⟨t, ht⟩ := h
  exact pd_c (pe_glob (v := .int i) hg ht ⟨t, rfl⟩ hd) (fun _ _ _ => rfl) (fun _ e => by cases e)
noncomputable def gInA (neg : Bool) : Mem → D → D → Option D := fun μ x y => (gInS neg μ x y).or (gInD neg μ x y)
theorem od_inA (hu : X.A.units + 65 < cLine) : OpD X (compareOp .In) (gInA false) := od_inS.or (od_in hu)
theorem od_notInA (hu : X.A.units + 65 < cLine) : OpD X (compareOp .NotIn) (gInA true) := od_notInS.or (od_notIn hu)
def repS (a : Str) (n : Nat) : Str := ⟨(List.replicate n a.cps).foldl (· ++ ·) #[]⟩
noncomputable def gMulS : Mem → D → D → Option D := fun _ x y => match x, y with
  | .str a, .int n => when_ (2 ≤ n ∧ n ≤ 1000 ∧ 1 ≤ a.length ∧ a.length ≤ 1000 ∧ (repS a n.toNat).length ≤ sizeLine) (some (.str (repS a n.toNat)))
  | _, _ => none
theorem op_mulS : OpR X (binaryOp .Mult) (fun x y H Q => ∃ (a : Str) (n : Int), x = .str a ∧ y = .int n ∧ (2 ≤ n ∧ n ≤ 1000 ∧ 1 ≤ a.length ∧ a.length ≤ 1000 ∧ (repS a n.toNat).length ≤ sizeLine) ∧ Q (.str (repS a n.toNat)) H) := by
  intro pins s σ H x y v u Q I rx ry ⟨a, n, e1, e2, ⟨h1, h2, h3, h4, h5⟩, q⟩
  subst e1 e2
  obtain ⟨t, rfl⟩ := rx
  obtain ⟨t2, rfl⟩ := ry
  have n1 : ¬ n < 1 := by omega
  have n2 : (n == 1 || a.length == 0) = false := by
    rw [Bool.or_eq_false_iff, beq_eq_false_iff_ne, beq_eq_false_iff_ne]
    exact ⟨by omega, by omega⟩
  have hd : (2 ^ 63 - 1) / n ≥ 1000 := Int.le_ediv_of_mul_le (by omega) (by omega)
  have hm : a.length * n.toNat ≤ 1000 * 1000 := Nat.mul_le_mul h4 (by omega)
  refine P.mul_str (by rw [decide_eq_false (by omega), decide_eq_false (by omega)]; rfl) (fun _ _ => by omega) (fun _ _ => ?_) ?_
  · unfold Builtin.Str.tooLong
    exact decide_eq_false (Nat.not_lt.mpr (Nat.le_trans hm (by decide)))
  · rw [if_neg n1, if_neg (by rw [n2]; exact Bool.false_ne_true)]
    exact ⟨h5, .str (repS a n.toNat), H, I.tok _, ⟨_, rfl⟩, q⟩
theorem od_mulS : OpD X (binaryOp .Mult) gMulS := fun H0 => ⟨_, op_mulS, fun av θ sd μ σ H dx dy x y d Q R rx ry hg q => by
  cases dx with
  | str a =>
    cases dy with
    | int n =>
      obtain ⟨c, hg⟩ := when_some (show when_ _ _ = some d from hg)
      cases hg
      have rx : x = .str a := rx
      have ry : y = .int n := ry
      subst rx ry
      exact ⟨a, n, rfl, rfl, c, q.same R rfl (fun _ e => by cases e)⟩
    | _ => cases hg
  | _ => cases hg⟩
noncomputable def gMulA : Mem → D → D → Option D := fun μ x y => (gMul μ x y).or (gMulS μ x y)
theorem od_mulA : OpD X (binaryOp .Mult) gMulA := od_mul.or od_mulS
end
end DL
set_option Elab.async false
set_option linter.all false
set_option maxRecDepth 100000
/-! DL, part 1: tables of classes, looked at in the head. -/
namespace DL
open PySem PySem.Spec PyProof.Rows L2 He
def gloB (K : PySem.W.Frag) (x : Str) : Bool := eqO (PySem.W.nsIn K mainGlobals x) (some (some (.ref (ga K x))))
abbrev T2B := List ((Str × Str) × Bool)
def exB (K : PySem.W.Frag) (L : T2B) : Bool := L.all fun t => gloB K t.1.1 && (gloB K t.1.2 && decide (PySem.W.exmOne K (.ref (ga K t.1.1)) (.ref (ga K t.1.2)) = some t.2))
def excB (K : PySem.W.Frag) (D : Addr) : Bool := decide (PySem.W.findIn K (.ref D) "__getattribute__" = some (some (.builtin "BaseException.__getattribute__"))) && (decide (PySem.W.findIn K (.ref D) "__getattr__" = some none) && (decide (PySem.W.subIn K (.ref D) (.type "BaseException") = some true) &&
  (PySem.W.hasDictIn K D && (decide (PySem.W.findIn K (.ref D) "__class__" = some (some (.builtin "object.__class__"))) && (decide (PySem.W.specialIn K (.builtin "object.__class__") "__get__" = some (some (.builtin "getset_descriptor.__get__"))) &&
    (decide (PySem.W.takesIn K (.builtin "object.__class__") = some true) && decide (PySem.W.mroIn K D (.type "object") = some true)))))))
theorem excB_ok {K : PySem.W.Frag} {D : Addr} (h : excB K D = true) : ExcC K D := by
  obtain ⟨h1, h⟩ := ba h
  obtain ⟨h2, h⟩ := ba h
  obtain ⟨h3, h⟩ := ba h
  obtain ⟨h4, h⟩ := ba h
  obtain ⟨h5, h⟩ := ba h
  obtain ⟨h6, h⟩ := ba h
  obtain ⟨h7, h8⟩ := ba h
  exact ⟨of_decide_eq_true h1, of_decide_eq_true h2, of_decide_eq_true h3, h4, of_decide_eq_true h5, of_decide_eq_true h6, of_decide_eq_true h7, of_decide_eq_true h8⟩
def kiB (K : PySem.W.Frag) (L : T2B) : Bool := L.all fun t => gloB K t.1.1 && (gloB K t.1.2 && (excB K (ga K t.1.1) && decide (PySem.W.kitOne K (.ref (ga K t.1.1)) (.ref (ga K t.1.2)) = some t.2)))
def ki2B (K : PySem.W.Frag) (L : List ((Str × String) × Bool)) : Bool := L.all fun t => gloB K t.1.1 && (excB K (ga K t.1.1) && decide (PySem.W.kitOne K (.ref (ga K t.1.1)) (.type t.1.2) = some t.2))
def xfBl (K : PySem.W.Frag) (L : List (Str × Str)) : Bool := L.all fun t => gloB K t.1 && (xfB K (ga K t.1) && eqO (PySem.W.findIn K (.ref (ga K t.1)) t.2) (some none))
def tabT (L : T2B) : Str → Str → Option Bool := fun x y => L.lookup (x, y)
def tabT2 (L : List ((Str × String) × Bool)) : Str → String → Option Bool := fun x y => L.lookup (x, y)
def tabX (L : List (Str × Str)) : Str → Str → Bool := fun x y => decide ((x, y) ∈ L)
theorem look_mem {α β : Type} [BEq α] [LawfulBEq α] {a : α} {b : β} : ∀ {L : List (α × β)}, L.lookup a = some b → (a, b) ∈ L
  | [], h => by cases h
  | (c, d) :: L, h => by
    simp only [List.lookup] at h
    split at h
    · rename_i q
      cases h
      rw [beq_iff_eq.mp q]
      exact List.mem_cons_self
    · exact List.mem_cons_of_mem _ (look_mem h)
section
variable {K : PySem.W.Frag} {h : Heap} {mg : Mg}
theorem gloB_ok (X : K.In h) (G : h.Ns mainGlobals mg) {x : Str} (e : gloB K x = true) : mg x = some (.ref (ga K x)) := PySem.W.mg_of X G (eqO_ok e)
theorem exT_of (X : K.In h) (G : h.Ns mainGlobals mg) {L : T2B} (e : exB K L = true) : ExT K mg (tabT L) := fun x y b q => by
  have m := List.all_eq_true.mp e _ (look_mem q)
  obtain ⟨m1, m⟩ := ba m
  obtain ⟨m2, m3⟩ := ba m
  have g1 := gloB_ok X G m1
  have g2 := gloB_ok X G m2
  refine ⟨⟨_, g1⟩, fun cx cy hx hy => ?_⟩
  rw [g1] at hx
  cases hx
  rcases hy with hy | ⟨hy, _⟩
  · rw [g2] at hy
    cases hy
    exact of_decide_eq_true m3
  · rw [g2] at hy
    cases hy
theorem xfT_of (X : K.In h) (G : h.Ns mainGlobals mg) {L : List (Str × Str)} (e : xfBl K L = true) : XfT K mg (tabX L) := fun x f q c hc => by
  have m := List.all_eq_true.mp e _ (of_decide_eq_true q)
  obtain ⟨m1, m⟩ := ba m
  obtain ⟨m2, m3⟩ := ba m
  have g1 := gloB_ok X G m1
  rw [g1] at hc
  cases hc
  exact ⟨xfB_ok m2, eqO_ok m3⟩
theorem kiT_of (X : K.In h) (G : h.Ns mainGlobals mg) {L : T2B} {L2 : List ((Str × String) × Bool)} (e : kiB K L = true) (e2 : ki2B K L2 = true) : KiT K mg (tabT L) (tabT2 L2) := by
  refine ⟨fun x y b q c hc => ?_, fun x y b q c hc => ?_⟩
  · have m := List.all_eq_true.mp e _ (look_mem q)
    obtain ⟨m1, m⟩ := ba m
    obtain ⟨m2, m⟩ := ba m
    obtain ⟨m3, m4⟩ := ba m
    have g1 := gloB_ok X G m1
    have g2 := gloB_ok X G m2
    rw [g1] at hc
    cases hc
    refine ⟨excB_ok m3, fun e he => ?_⟩
    rw [g2] at he
    cases he
    exact of_decide_eq_true m4
  · have m := List.all_eq_true.mp e2 _ (look_mem q)
    obtain ⟨m1, m⟩ := ba m
    obtain ⟨m3, m4⟩ := ba m
    have g1 := gloB_ok X G m1
    rw [g1] at hc
    cases hc
    exact ⟨excB_ok m3, of_decide_eq_true m4⟩
end
end DL
set_option Elab.async false
set_option linter.all false
set_option maxRecDepth 100000
/-! DM1: instances: fields read, fields set, making. -/
namespace DL
open PySem PySem.Spec PyProof.Rows L2

/-- which classes have plain instances, with which fields -/
def FldT (K : PySem.W.Frag) (mg : Mg) (T : Str → Str → Bool) : Prop := ∀ x f, T x f = true → ∀ c, mg x = some (.ref c) → Cls K c ∧ NoAttr K c f
/-- an instance: its class, its fields -/
def insD (μ : Mem) : D → Option (Str × List (Str × D))
  | .obj C fs => some (C, fs)
  | .bor C fs => some (C, fs)
  | .ref n => match μ[n]? with
    | some (.ins C fs) => some (C, fs)
    | _ => none
  | _ => none
def getF (T : Str → Str → Bool) (f : Str) (z : Str × List (Str × D)) : Option D := if T z.1 f = true then (z.2.lookup f).bind fun v => if notNew v = true then some v else none else none
def eFld (T : Str → Str → Bool) (f : Str) (fo : EE) : EE := fun sd μ => bE (fo sd μ) fun x μ1 => ((insD μ1 x).bind (getF T f)).map fun d => (.ok d, μ1)
def putD (f : Str) (y : D) : List (Str × D) → List (Str × D)
  | [] => [(f, y)]
  | (g, x) :: r => if g = f then (g, y) :: r else (g, x) :: putD f y r
/-- a value that is kept: a list just made is no longer changed -/
def frzD : D → D
  | .new ds => .fr ds
  | d => d
def setF (T : Str → Str → Bool) (f : Str) (μ : Mem) (x y : D) : Option Mem := match x with
  | .ref n => match μ[n]? with
    | some (.ins C fs) => if T C f = true ∧ fs.length < 1000 then some (μ.set n (.ins C (putD f (frzD y) fs))) else none
    | _ => none
  | _ => none
def sSetF (T : Str → Str → Bool) (f : Str) (fo fv : EE) : SS := fun sd μ => bS (fv sd μ) sd fun y μ1 => bS (fo sd μ1) sd fun x μ2 => (setF T f μ2 x y).map fun μ3 => (.nx, sd, μ3)
section
variable {K : PySem.W.Frag} {mg : Mg} {H0 H : Hp} {av θ : List Addr} {sd : Sl} {μ : Mem} {σ : L2.St}
theorem ins_at {d : D} {v : V} {z : Str × List (Str × D)} (R : RS K mg H0 av θ sd μ σ H) (r : rep K mg H0 av θ H d v) (h : insD μ d = some z) : ∃ a c dx vs, v = .ref a ∧ mg z.1 = some (.ref c) ∧ H a = some (.ins c dx vs) ∧ repF K mg H0 av θ H z.2 vs := by
  cases d with
  | obj C fs => cases h; obtain ⟨a, c, dx, vs, e, _, _, hc, t, r⟩ := r; exact ⟨a, c, dx, vs, e, hc, t, r⟩
  | bor C fs => cases h; obtain ⟨a, c, dx, vs, e, hc, t, r⟩ := r; exact ⟨a, c, dx, vs, e, hc, R.ex _ _ t, r⟩
  | ref n =>
    obtain ⟨a, e, hn⟩ := r
    have h : (match μ[n]? with
      | some (.ins C fs) => some (C, fs)
      | _ => none) = some z := h
    cases hm : μ[n]? with
    | none => rw [hm] at h; cases h
    | some mo =>
      rw [hm] at h
      cases mo with
      | lst es => cases h
      | ins C fs => cases h; obtain ⟨c, dx, vs, hc, t, r⟩ := R.mem n _ a hm hn; exact ⟨a, c, dx, vs, e, hc, t, r⟩
  | _ => cases h
theorem repF.length : ∀ {fs : List (Str × D)} {vs : List (Str × V)}, repF K mg H0 av θ H fs vs → vs.length = fs.length
  | [], _, h => by have h : _ = [] := h; rw [h]; rfl
  | (f, d) :: fs, _, ⟨x, r, e, _, t⟩ => by subst e; rw [List.length_cons, List.length_cons, repF.length t]
theorem repF.put {f : Str} {y : D} {v : V} (ry : rep K mg H0 av θ H y v) : ∀ {fs : List (Str × D)} {vs : List (Str × V)}, repF K mg H0 av θ H fs vs → repF K mg H0 av θ H (putD f y fs) (putF f v vs)
  | [], _, h => by
    have h : _ = [] := h
    subst h
    exact ⟨v, [], rfl, ry, rfl⟩
  | (g, d) :: fs, _, ⟨x, r, e, hd, t⟩ => by
    subst e
    unfold putD putF
    by_cases q : g = f
    · rw [if_pos q, if_pos q]; exact ⟨v, r, rfl, ry, t⟩
    · rw [if_neg q, if_neg q]; exact ⟨x, _, rfl, hd, repF.put ry t⟩
theorem rep.frz {y : D} {v : V} (r : rep K mg H0 av θ H y v) : rep K mg H0 av θ H (frzD y) v := by
  cases y <;> exact r
end
section
variable {X : Cx} {H0 : Hp} {W : WX} {av θ : List Addr} {sd : Sl} {μ : Mem} {σ : L2.St} {H : Hp}
theorem pd_fld {T : Str → Str → Bool} (hT : FldT X.K X.mg T) {o : Expr} {fo : EE} {f : Str} {pos : Pos} (he : PE X o (tE X.K X.mg H0 W fo)) (hb : attributeBase o f X.env (eval o X.env) = eval o X.env := by rfl) :
    PE X (.Attribute o f pos) (tE X.K X.mg H0 W (eFld T f fo)) := by
  refine wkE (pe_fld he hb) fun σ H Q ⟨av, θ, sd, μ, R, P⟩ => ⟨av, θ, sd, μ, R, P.bind antiD fun x μ1 v θ1 H1 nv g1 R1 r1 P1 => ?_⟩
  cases hz : insD μ1 x with
  | none => simp only [hz] at P1; exact P1.elim
  | some z =>
    simp only [hz] at P1
    have P1 : Post X.K X.mg H0 W (relD X.K X.mg H0) av θ1 sd σ H1 Q ((getF T f z).map fun d => (.ok d, μ1)) := P1
    unfold getF at P1
    by_cases hx : T z.1 f = true
    case neg => rw [if_neg hx] at P1; exact P1.elim
    rw [if_pos hx] at P1
    obtain ⟨a, c, dx, vs, rfl, hc, t, r⟩ := ins_at R1.plain r1.1 hz
    cases hl : z.2.lookup f with
    | none => rw [hl] at P1; exact P1.elim
    | some y =>
      rw [hl] at P1
      obtain ⟨u, lu, ru⟩ := repF_look r hl
      have P3 : Post X.K X.mg H0 W (relD X.K X.mg H0) av θ1 sd σ H1 Q ((if notNew y = true then some y else none).map fun d => (.ok d, μ1)) := P1
      by_cases hn : notNew y = true
      case neg => rw [if_neg hn] at P3; exact P3.elim
      rw [if_pos hn] at P3
      obtain ⟨k1, k2⟩ := hT _ _ hx _ hc
      refine ⟨a, c, dx, vs, u, rfl, t, k1, k2, lu, P3 u θ1 H1 [] Gr.refl R1.plain ⟨ru, fun ds q => ?_⟩⟩
      subst q
      cases hn
theorem setF_ok {T : Str → Str → Bool} (hT : FldT X.K X.mg T) {f : Str} {x y : D} {u v : V} {μ' : Mem} (R : RS X.K X.mg H0 av θ sd μ σ H) (rx : rep X.K X.mg H0 av θ H x u) (ry : rep X.K X.mg H0 av θ H y v) (h : setF T f μ x y = some μ') :
    ∃ a C dx fs, u = .ref a ∧ H a = some (.ins C dx fs) ∧ Cls X.K C ∧ NoAttr X.K C f ∧ fs.length < 1000 ∧ Gr θ θ H (upd H a (.ins C dx (putF f v fs))) ∧ RS X.K X.mg H0 av θ sd μ' σ (upd H a (.ins C dx (putF f v fs))) := by
  cases x with
  | ref n =>
    obtain ⟨a, e, hn⟩ := rx
    have h : (match μ[n]? with
      | some (.ins C fs) => if T C f = true ∧ fs.length < 1000 then some (μ.set n (.ins C (putD f (frzD y) fs))) else none
      | _ => none) = some μ' := h
    cases hm : μ[n]? with
    | none => rw [hm] at h; cases h
    | some mo =>
      rw [hm] at h
      cases mo with
      | lst es => cases h
      | ins C fs =>
        have h : (if T C f = true ∧ fs.length < 1000 then some (μ.set n (.ins C (putD f (frzD y) fs))) else none) = some μ' := h
        by_cases q : T C f = true ∧ fs.length < 1000
        case neg => rw [if_neg q] at h; cases h
        rw [if_pos q] at h
        cases h
        obtain ⟨c, dx, vs, hc, t, r⟩ := R.mem n _ a hm hn
        obtain ⟨k1, k2⟩ := hT _ _ q.1 _ hc
        have ha : a ∈ θ := List.mem_of_getElem? hn
        have g0 : Gr θ θ H (upd H a (.ins c dx (putF f v vs))) := ⟨List.prefix_refl _, fun b h m => absurd h m, fun b u m e => by rw [upd_ne (fun z => m (by rw [z]; exact ha))]; exact e⟩
        obtain ⟨g, R'⟩ := R.setO hn (mo := .ins C (putD f (frzD y) fs)) (o := .ins c dx (putF f v vs)) ⟨c, dx, _, hc, upd_same, repF.gr g0 _ _ (repF.put ry.frz r)⟩
        exact ⟨a, c, dx, vs, e, t, k1, k2, by rw [repF.length r]; exact q.2, g, R'⟩
  | _ => cases h
theorem ps_setF {T : Str → Str → Bool} (hT : FldT X.K X.mg T) {o value : Expr} {fo fv : EE} {f : Str} {pos pos' : Pos} (ho : PE X o (tE X.K X.mg H0 W fo)) (hv : PE X value (tE X.K X.mg H0 W fv)) (hs : swapsWith value (some (.Attribute o f pos')) pos.line X.env = pure false := by rfl) :
    PS X (.Assign [.Attribute o f pos'] value pos) (tS X.K X.mg H0 W (sSetF T f fo fv)) := by
  refine wkS (ps_fld ho hv hs) fun E σ H ⟨av, θ, sd, μ, R, P⟩ => ⟨av, θ, sd, μ, R, P.val R fun y μ1 v θ1 H1 nv g1 R1 r1 P1 => ?_⟩
  refine ⟨av, θ1, sd, μ1, R1.plain, P1.val R1.plain fun x μ2 u θ2 H2 nw g2 R2 r2 P2 => ?_⟩
  cases h : setF T f μ2 x y with
  | none => simp only [h] at P2; exact P2.elim
  | some μ3 =>
    simp only [h] at P2
    obtain ⟨a, C, dx, fs, e1, e2, e3, e4, e5, g, R'⟩ := setF_ok hT R2.plain r2.1 (repG g2 r1.1) h
    exact ⟨a, C, dx, fs, e1, e2, e3, e4, e5, P2 σ θ2 _ g R'⟩
end

/-! ### making -/
def runI (n : Nat) (C : Str) (body : SS) : Mir := fun ds => match body (some (.ref 0) :: ds.map some ++ List.replicate (n - (ds.length + 1)) none) [.ins C []] with
  | some (.nx, _, μ) => (outD μ (.ref 0)).map .ok
  | some (.exc e, _, _) => some (.error e)
  | _ => none
def spI (K : PySem.W.Frag) (mg : Mg) (C : Str) (np : Nat) (m : Mir) : Sp := fun vs H Q E => ∃ y H1 c dx args av ds, vs = .ref y :: args ∧ mg C = some (.ref c) ∧ H1 y = none ∧ H1 dx = none ∧ dx ≠ y ∧ H = upd (upd H1 dx (.own y)) y (.ins c dx []) ∧
  (∀ a ∈ av, ∃ o, H1 a = some o ∧ Mut (some o)) ∧ repL K mg H1 av [] H1 ds args ∧ ds.length = np ∧ match m ds with
  | none => False
  | some (.ok d) => ∀ H', Exh H1 H' → repR K mg H1 av H' d (.ref y) → Q .non H'
  | some (.error e) => ∀ cls dd H', Exh H1 H' → repX K mg H1 av [] H' e cls dd → E cls dd H'
section
variable {P : Program} {w : World} {K : PySem.W.Frag} {mg : Mg} {base : Heap}
theorem repL_get {H0 H : Hp} {av θ : List Addr} : ∀ {ds : List D} {vs : List V} {i : Nat} {d : D}, repL K mg H0 av θ H ds vs → ds[i]? = some d → ∃ v, vs[i]? = some v ∧ rep K mg H0 av θ H d v := by
  intro ds
  induction ds with
  | nil => intro vs i d _ h; simp at h
  | cons d0 ds ih =>
    intro vs i d hr h
    obtain ⟨x, rr, rfl, rx, rt⟩ := hr
    cases i with
    | zero => simp at h; subst h; exact ⟨x, rfl, rx⟩
    | succ i =>
      obtain ⟨v, a, b⟩ := ih rt (by simpa using h)
      exact ⟨v, by simpa using a, b⟩
theorem init_ok {qual : Str} {st : Stmt} {f : Addr} {fd : FuncData} {N ps : List Str} {k np : Nat} {C : Str} {body : SS} (F : Fun K "__init__" qual st f fd) (S : FnScope N ps (defScope st)) (hnp : ps.length = np + 1)
    (hbody : ∀ (cdv : Value) (A : Around) (outer : List Env) (s : Shared) (Hs H1 : Hp) (E : XK), Room k (A.deeper (envOfC qual (defScope st) s.heap.objs.size f cdv)) →
      PSs (cxOf (L2.CX P w) P w K mg base N qual (defScope st) f cdv A outer s Hs E) (defBody st) (tS K mg H1 (fun cls d _ H' => E cls d H') body)) :
    FnOk P w K mg base (L2.CX P w) (k + 1) f fd ps (spI K mg C np (runI N.length C body)) := by
  refine F.okX S (fun vs H Q E h => ?_) (fun cdv A outer s H vs Q E hr h => ?_)
  · obtain ⟨y, H1, c, dx, args, av, ds, rfl, _, _, _, _, _, _, r, hl, _⟩ := h
    rw [List.length_cons, repL.length r, hl, hnp]
  · obtain ⟨y, H1, c, dx, args, av, ds, rfl, hc, hy, hdx, hne, rfl, hav, r, hl, h⟩ := h
    refine ⟨_, hbody cdv A outer s _ H1 E hr, ?_⟩
    have hps : ps.length ≤ N.length := by
      have := congrArg List.length S.pre
      rw [List.length_take] at this
      omega
    have hlv := repL.length r
    have e0 : Exh H1 (upd (upd H1 dx (.own y)) y (.ins c dx [])) := ((Exh.refl H1).mut hdx).mut hy
    have g0 : Gr [] [y] H1 (upd (upd H1 dx (.own y)) y (.ins c dx [])) := ⟨List.nil_prefix, fun a h _ => by rw [List.mem_singleton.mp h]; exact hy, fun a o _ q => e0 a o q⟩
    have R0 : RS K mg H1 av [y] (some (.ref 0) :: ds.map some ++ List.replicate (N.length - (ds.length + 1)) none) [.ins C []] (start N (.ref y :: args)) (upd (upd H1 dx (.own y)) y (.ins c dx [])) := by
      refine ⟨e0, fun a h => by rw [List.mem_singleton.mp h]; exact hy, by simp, rfl, fun n mo a h1 h2 => ?_, fun a q => ?_, ?_, fun i d hd => ?_⟩
      · cases n with
        | zero =>
          simp at h1 h2
          subst h1 h2
          exact ⟨c, dx, [], hc, upd_same, rfl⟩
        | succ n => simp at h1
      · obtain ⟨o, ho, mo⟩ := hav a q
        refine ⟨fun z => ?_, o, e0 _ _ ho, mo⟩
        rw [List.mem_singleton.mp z, hy] at ho
        cases ho
      · unfold L2.start
        simp only [List.length_append, List.length_map, List.length_replicate, List.length_cons]
        omega
      · cases i with
        | zero =>
          simp at hd
          subst hd
          exact ⟨.ref y, by unfold L2.start; simp, y, rfl, rfl⟩
        | succ i =>
          simp only [List.cons_append, List.getElem?_cons_succ] at hd
          have hi : i < ds.length := by
            by_cases q : i < ds.length
            · exact q
            · rw [List.getElem?_append_right (by simpa using q), List.getElem?_replicate] at hd
              split at hd <;> cases hd
          rw [List.getElem?_append_left (by simpa using hi), List.getElem?_map] at hd
          cases hq : ds[i]? with
          | none => rw [hq] at hd; cases hd
          | some d1 =>
            rw [hq] at hd
            cases hd
            obtain ⟨v, a, b⟩ := repL_get r hq
            refine ⟨v, ?_, rep.gr g0 _ _ b⟩
            unfold L2.start
            rw [List.getElem?_append_left (by simp; omega), List.getElem?_map, List.getElem?_cons_succ, a]
            rfl
    refine ⟨av, [y], _, _, R0, ?_⟩
    unfold runI at h
    match hb : body (some (.ref 0) :: ds.map some ++ List.replicate (N.length - (ds.length + 1)) none) [.ins C []], h with
    | none, h => exact h.elim
    | some (.nx, sd', μ'), h =>
      intro σ' θ' H' g R
      cases ho : outD μ' (.ref 0) with
      | none => simp only [ho] at h; exact h.elim
      | some d =>
        simp only [ho] at h
        have q0 : θ'[0]? = some y := g.get (n := 0) rfl
        have q1 : relD K mg H1 av θ' H' H' [] (.ref 0) (.ref y) := ⟨⟨y, rfl, q0⟩, fun _ e => by cases e⟩
        exact h H' R.ex (out_ok R q1 ho)
    | some (.ret d, sd', μ'), h => exact h.elim
    | some (.brk, sd', μ'), h => exact h.elim
    | some (.ct, sd', μ'), h => exact h.elim
    | some (.exc e, sd', μ'), h =>
      intro cls dd σ' θ' H' g R r
      refine h cls dd H' R.ex ?_
      rcases r with ⟨c, d, vs, h1, h2, h3, n, m, h4, p, r⟩ | r
      · exact .inl ⟨c, d, vs, h1, h2, h3, by simp, m, h4, p, repF.out _ _ p r⟩
      · exact .inr r
end
/-- a class that is made by an own __init__ -/
def MkD (P : Program) (w : World) (K : PySem.W.Frag) (mg : Mg) (base : Heap) (x : Str) (k np : Nat) (m : Mir) : Prop :=
  ∃ C f fd ps, mg x = some (.ref C) ∧ Mk K C f ∧ Binds K fd ps [] ∧ ps.length = np + 1 ∧ FnOk P w K mg base (L2.CX P w) k f fd ps (spI K mg x np m)
theorem MkD.mono {P : Program} {w : World} {K : PySem.W.Frag} {mg : Mg} {base : Heap} {x : Str} {k j np : Nat} {m : Mir} (h : MkD P w K mg base x k np m) (q : k ≤ j) : MkD P w K mg base x j np m :=
  let ⟨C, f, fd, ps, a, b, c, d, e⟩ := h
  ⟨C, f, fd, ps, a, b, c, d, e.mono q⟩
section
variable {X : Cx} {k : Nat} {C f : Addr} {fd : FuncData} {ps : List Str} {sp : Sp} {E : L2.St → XK}
theorem run_makeS {CX : CXT} {pins : List (Addr × Obj)} {σ : L2.St} {H : Hp} {s : Shared} {Q : VK} {us : List Value} {vs : List V} (M : Mk X.K C f) (F : FnOk X.prog X.w X.K X.mg X.base CX k f fd ps sp) (hr : Room (k + 1) X.A) (hb : Binds X.K fd ps [])
    (hx : PassesAt CX X σ (E σ)) (I : Inv X pins σ H s) (r : Vals vs us)
    (h : ∀ x dx, H x = none → H dx = none → dx ≠ x → sp (.ref x :: vs) (upd (upd H dx (.own x)) x (.ins C dx [])) (fun v H2 => v = .non ∧ Q (.ref x) H2) (E σ)) :
    wpAny (model X.prog X.w) X.A (call (.ref C) us) (EP X pins σ Q) X.xe s := by
  have hq := h (s.heap.objs.size + 1) s.heap.objs.size (I.hok.fresh (Nat.le_succ _)) (I.hok.fresh (Nat.le_refl _)) (Nat.ne_of_lt (Nat.lt_succ_self _))
  have I2 := Inv.made (C := C) I
  have r2 : Vals (V.ref (s.heap.objs.size + 1) :: vs) (Value.ref (s.heap.objs.size + 1) :: us) := .cons rfl r
  have hl : (Value.ref (s.heap.objs.size + 1) :: us).length = ps.length := by
    have e := r2.length
    rw [F.len _ _ _ _ hq] at e
    exact e.symm
  have b := hb { s with heap := (s.heap.push PySem.W.emptyDict).push (PySem.W.instObj C s.heap.objs.size) } (Value.ref (s.heap.objs.size + 1) :: us) I2.kIn (by rw [List.append_nil]; exact hl)
  rw [List.append_nil] at b
  refine wpAny_call (make_map (f := f) I.kIn M.makes M.init (beq_iff_eq.mp M.fn) (codeAny_mono (F.run _ X.stack _ _ ⟨Value.ref (s.heap.objs.size + 1) :: us, []⟩ (Value.ref (s.heap.objs.size + 1) :: us) _ _ (E σ) (hr.make C us [])
    (I2.env0.make C us []) b r2 hq) fun r s' hq' => ?_))
  cases r with
  | error e => exact hx pins _ _ e s' I2 hq'
  | ok fl =>
    cases fl with
    | ret u =>
      obtain ⟨v, H', I3, rv, ev, q3⟩ := I2.after hq'
      subst ev
      exact ⟨rv, ⟨V.ref (s.heap.objs.size + 1), H', I3, rfl, q3⟩⟩
    | next => exact False.elim hq'
    | brk => exact False.elim hq'
    | cont => exact False.elim hq'
def tMakeS (C : Addr) (sp : Sp) (E : L2.St → XK) (t : TA) : TE := fun σ H Q => t σ H fun vs H1 => ∀ x dx, H1 x = none → H1 dx = none → dx ≠ x → sp (.ref x :: vs) (upd (upd H1 dx (.own x)) x (.ins C dx [])) (fun v H2 => v = .non ∧ Q (.ref x) H2) (E σ)
theorem pe_makeS {CX : CXT} {x : Str} {p pos : Pos} {e : Expr} {es : List Expr} {t : TA} (M : Mk X.K C f) (F : FnOk X.prog X.w X.K X.mg X.base CX k f fd ps sp) (hr : Room (k + 1) X.A) (hg : Gl X x) (hm : X.mg x = some (.ref C)) (hb : Binds X.K fd ps []) (hx : ∀ σ, PassesAt CX X σ (E σ))
    (ha : PA X (e :: es) t) (hdb : (x == ("__debug__" : Str)) = false := by decide) (he : starEach (e :: es) X.env = (false, eval e X.env) :: starEach es X.env := by rfl) (hpl : (backTo pos (starEach es X.env)).any (·.1) = false := by rfl) :
    PE X (.Call (.Name x p) (e :: es) [] pos) (tMakeS C sp E t) := by
  refine ⟨fun pins s σ H Q I h => ?_⟩
  refine wpAny_Call_Name_kw (ld_glob I hg hm ?_ hdb)
  refine PySem.W.callWith_K (h₀ := X.base) I.ok.mod.kin M.kp (thn (ha.run pos pins s σ H _ I h) fun us s1 ⟨vs, H1, I1, r, q⟩ => ⟨I1.kIn, ?_⟩) he hpl
  exact run_makeS M F hr hb (hx σ) I1 r q
/-- C(e, ..) -/
theorem pd_make {W : WX} {H0 : Hp} {x : Str} {k j np : Nat} {m : Mir} {e : Expr} {es : List Expr} {ga : EA} {p pos : Pos} (F : MkD X.prog X.w X.K X.mg X.base x k np m) (tk : Takes X W) (hr : Room (j + 1) X.A) (ha : PA X (e :: es) (tA X.K X.mg H0 W ga)) (hk : k ≤ j := by decide) (hg : Gl X x := by rfl)
    (hdb : (x == ("__debug__" : Str)) = false := by decide) (he : starEach (e :: es) X.env = (false, eval e X.env) :: starEach es X.env := by rfl) (hpl : (backTo pos (starEach es X.env)).any (·.1) = false := by rfl) :
    PE X (.Call (.Name x p) (e :: es) [] pos) (tE X.K X.mg H0 W (eCall m np ga)) := by
  obtain ⟨C, f, fd, ps, hm, hM, hb, hps, F⟩ := F
  refine wkE (pe_makeS hM F (hr.mono (Nat.succ_le_succ hk)) hg hm hb (fun σ => passAt tk σ) ha hdb he hpl) fun σ H Q ⟨av, θ, sd, μ, R, P⟩ => ⟨av, θ, sd, μ, R, P.bind antiD fun ds μ1 vs θ1 H1 nv g1 R1 r1 P1 => ?_⟩
  have R1 := R1.plain
  cases h1 : argsD μ1 ds with
  | none => rw [h1] at P1; exact P1.elim
  | some ds' =>
    rw [h1] at P1
    have P1 : Post X.K X.mg H0 W (relD X.K X.mg H0) av θ1 sd σ H1 Q (if ds'.length = np then match m ds' with
      | none => none
      | some (.ok d) => some (.ok d, μ1)
      | some (.error e) => some (.error e, μ1)
      else none) := P1
    by_cases hn : ds'.length = np
    case neg => rw [if_neg hn] at P1; exact P1.elim
    rw [if_pos hn] at P1
    intro y dx hy hdx hne
    refine ⟨y, H1, C, dx, vs, θ1 ++ av, ds', rfl, hm, hy, hdx, hne, rfl, fun a h => ?_, args_ok R1 r1 h1, hn, ?_⟩
    · rcases List.mem_append.mp h with h | h
      · exact R1.has h
      · exact (R1.avs a h).2
    · cases hmd : m ds' with
      | none => rw [hmd] at P1; exact P1.elim
      | some r =>
        rw [hmd] at P1
        cases r with
        | ok d =>
          intro H' ex rr
          obtain ⟨nv, R2, r2⟩ := ret_ok R1 ex rr
          exact ⟨rfl, P1 _ θ1 H' nv (Gr.of_ex ex) R2 r2⟩
        | error e =>
          intro cls dd H' ex rr
          exact P1 cls dd θ1 H' (Gr.of_ex ex) (R1.grow ex) (retX_ok R1 rr)
end
end DL
set_option Elab.async false
set_option linter.all false
set_option maxRecDepth 100000
set_option maxHeartbeats 3200000
/-! DS, part 0: tables of sets up to 512 slots. -/
namespace DS
open PySem PySem.Spec PyProof.Rows L2

/-! ### masks: the round i -> 5 i + 1 meets each slot -/
def Msk (m : Nat) : Prop := m = 7 ∨ m = 31 ∨ m = 127 ∨ m = 511
def trail (m : Nat) : Nat → Nat → List Nat
  | 0, _ => []
  | n + 1, x => x :: trail m n ((x * 5 + 1) % (m + 1))
theorem trail_mem {m j : Nat} : ∀ (n a : Nat), j ∈ trail m n (lcgN m a) → ∃ b, b < n ∧ lcgN m (a + b) = j
  | 0, _, h => by cases h
  | n + 1, a, h => by
    rcases List.mem_cons.mp h with h | h
    · exact ⟨0, Nat.succ_pos n, h.symm⟩
    · obtain ⟨b, h1, h2⟩ := trail_mem n (a + 1) h
      exact ⟨b + 1, Nat.succ_lt_succ h1, by rw [show a + (b + 1) = a + 1 + b by omega]; exact h2⟩
def meetsAll (m : Nat) : Bool := (List.range (m + 1)).all fun j => (trail m (m + 1) 0).contains j
theorem meets_511 : meetsAll 511 = true := by decide +kernel
theorem back_511 : lcgN 511 512 = 0 := by decide +kernel
theorem Msk.all {m : Nat} (hm : Msk m) {j : Nat} (hj : j ≤ m) : ∃ b, b ≤ m ∧ lcgN m b = j := by
  rcases hm with e | e | e | e
  · exact lcg_all (.inl e) hj
  · exact lcg_all (.inr (.inl e)) hj
  · exact lcg_all (.inr (.inr e)) hj
  · subst e
    have h := List.all_eq_true.mp meets_511 j (List.mem_range.mpr (Nat.lt_succ_of_le hj))
    have h : j ∈ trail 511 512 0 := by simpa using h
    obtain ⟨b, h1, h2⟩ := trail_mem (m := 511) 512 0 h
    exact ⟨b, Nat.le_of_lt_succ h1, by rw [Nat.zero_add] at h2; exact h2⟩
theorem Msk.back {m : Nat} (hm : Msk m) : lcgN m (m + 1) = 0 := by
  rcases hm with e | e | e | e
  · exact lcg_round (.inl e)
  · exact lcg_round (.inr (.inl e))
  · exact lcg_round (.inr (.inr e))
  · subst e; exact back_511
theorem Msk.odd {m : Nat} (hm : Msk m) : m % 2 = 1 := by
  rcases hm with e | e | e | e <;> subst e <;> rfl
theorem Msk.again {m : Nat} (hm : Msk m) : ∀ k, lcgN m (m + 1 + k) = lcgN m k
  | 0 => hm.back
  | k + 1 => by
    have e : lcgN m (m + 1 + k) = lcgN m k := hm.again k
    show (lcgN m (m + 1 + k) * 5 + 1) % (m + 1) = (lcgN m k * 5 + 1) % (m + 1)
    rw [e]
theorem Msk.from {m : Nat} (hm : Msk m) {i j : Nat} (hi : i ≤ m) (hj : j ≤ m) : ∃ k, k ≤ m ∧ lcgI m i k = j := by
  obtain ⟨a, ha, rfl⟩ := hm.all hi
  obtain ⟨b, hb, rfl⟩ := hm.all hj
  by_cases c : a ≤ b
  · exact ⟨b - a, by omega, by rw [lcgN_add, show a + (b - a) = b by omega]⟩
  · exact ⟨b + (m + 1) - a, by omega, by rw [lcgN_add, show a + (b + (m + 1) - a) = m + 1 + b by omega, hm.again]⟩
theorem Msk.run {m : Nat} (hm : Msk m) (h : Int) {j : Nat} (hj : j ≤ m) : ∃ n, n ≤ m + 12 ∧ runI m (SetTable.bits h) n = j := by
  obtain ⟨k, hk, e⟩ := hm.from (runI_le m (SetTable.bits h) 12) hj
  exact ⟨12 + k, by omega, by rw [runI_tail (bits_lt h)]; exact e⟩
theorem way_in {m : Nat} {h : Int} {k : Nat} : way m h k ≤ m := by
  have hi : SetTable.bits h % (m + 1) ≤ m := Nat.le_of_lt_succ (Nat.mod_lt _ (Nat.succ_pos _))
  have r := runEnd_bd hi
  have q := nth_in (m := m) k (runAt m (SetTable.bits h % (m + 1)) (SetTable.bits h)) (by
    show SetTable.bits h % (m + 1) + (SetTable.runEnd m (SetTable.bits h % (m + 1)) - SetTable.bits h % (m + 1)) ≤ m
    omega)
  exact Nat.le_trans (Nat.le_add_right _ _) q
/-! ### a table whose rows are found from their hashes -/
structure TabB (t : SetTable) (hs : List Int) : Prop where
  ris : Ris t.place.toList
  dm : t.dummies = #[]
  sz : t.place.size = hs.length
  msk : Msk t.mask
  le : ∀ x ∈ t.place.toList, x ≤ t.mask
  reach : ∀ (i : Nat) (h : Int) (j : Nat), hs[i]? = some h → t.place.toList[i]? = some j → ∃ k, way t.mask h k = j ∧ ∀ c, c < k → way t.mask h c ∈ t.place.toList
theorem TabB.first {t : SetTable} {hs : List Int} (T : TabB t hs) (hl : hs.length ≤ t.mask) (h : Int) : ∃ K, K < 10 * SetTable.turns t.mask ∧ way t.mask h K ∉ t.place.toList ∧ ∀ c, c < K → way t.mask h c ∈ t.place.toList := by
  obtain ⟨j, hj, hn⟩ := st_missing t.place.toList (t.mask + 1) (by rw [Array.length_toList, T.sz]; omega)
  obtain ⟨n, hn1, e1⟩ := T.msk.run h (Nat.le_of_lt_succ hj)
  obtain ⟨k, hk, e2⟩ := run_nth t.mask (SetTable.bits h) n
  have e : way t.mask h k = j := by
    show (nth t.mask _ k).j = j
    rw [e2]
    exact e1
  obtain ⟨K, h1, h2, h3⟩ := st_least (p := fun k => way t.mask h k ∉ t.place.toList) k (by rw [e]; exact hn)
  exact ⟨K, by unfold SetTable.turns; omega, h2, fun c hc => Classical.not_not.mp (h3 c hc)⟩
theorem TabB.before {t : SetTable} {hs : List Int} (T : TabB t hs) {h : Int} {K i j : Nat} (hK : way t.mask h K ∉ t.place.toList) (hi : hs[i]? = some h) (hj : t.place.toList[i]? = some j) : ∃ k, k < K ∧ way t.mask h k = j := by
  obtain ⟨k, e, hb⟩ := T.reach i h j hi hj
  refine ⟨k, Classical.byContradiction fun q => ?_, e⟩
  rcases Nat.lt_or_ge K k with c | c
  · exact hK (hb K c)
  · obtain rfl : K = k := by omega
    rw [e] at hK
    exact hK (List.mem_of_getElem? hj)
theorem TabB.put {t : SetTable} {hs : List Int} (T : TabB t hs) {h : Int} {K : Nat} (hK : way t.mask h K ∉ t.place.toList) (hb : ∀ c, c < K → way t.mask h c ∈ t.place.toList) :
    (t.put (way t.mask h K)).2 = SetTable.below t.place (way t.mask h K) ∧ SetTable.below t.place (way t.mask h K) ≤ hs.length ∧
    TabB (t.put (way t.mask h K)).1 (hs.take (SetTable.below t.place (way t.mask h K)) ++ h :: hs.drop (SetTable.below t.place (way t.mask h K))) ∧
    (t.put (way t.mask h K)).1.mask = t.mask ∧ (t.put (way t.mask h K)).1.led = t.led ∧ (t.put (way t.mask h K)).1.plain = t.plain ∧ (t.put (way t.mask h K)).1.fill = hs.length + 1 := by
  have hjm : way t.mask h K ≤ t.mask := way_in
  generalize hj : way t.mask h K = j at hK hjm ⊢
  obtain ⟨c1, _, _⟩ := below_cut T.ris j
  generalize hp : SetTable.below t.place j = p at c1
  have hpl : p ≤ t.place.toList.length := c1
  have hph : p ≤ hs.length := by rw [← T.sz]; exact c1
  have ew : (t.put j).1.place.toList = t.place.toList.take p ++ j :: t.place.toList.drop p := by rw [← hp]; exact put_place t j
  have hn : t.place[SetTable.below t.place j]? ≠ some j := fun e => hK (List.mem_of_getElem? (by rw [Array.getElem?_toList]; exact e))
  have hsize : (t.put j).1.place.size = hs.length + 1 := by rw [← Array.length_toList, ew, len_ins _ hpl, Array.length_toList, T.sz]
  have up : ∀ {x : Nat}, x ∈ t.place.toList → x ∈ (t.put j).1.place.toList := fun hx => by rw [ew]; exact mem_ins.2 (.inr hx)
  refine ⟨hp, hph, ⟨ris_insert T.ris hn, put_dm T.dm j, by rw [len_ins _ hph]; exact hsize, T.msk, fun x hx => ?_, fun i h1 j1 e1 e2 => ?_⟩, rfl, rfl, rfl, ?_⟩
  · rw [ew] at hx
    rcases mem_ins.1 hx with z | z
    · rw [z]; exact hjm
    · exact T.le x z
  · show ∃ k, way t.mask h1 k = j1 ∧ ∀ c, c < k → way t.mask h1 c ∈ (t.put j).1.place.toList
    have old : ∀ i0, hs[i0]? = some h1 → t.place.toList[i0]? = some j1 → ∃ k, way t.mask h1 k = j1 ∧ ∀ c, c < k → way t.mask h1 c ∈ (t.put j).1.place.toList := fun i0 a1 a2 => by
      obtain ⟨k, e, z⟩ := T.reach i0 h1 j1 a1 a2
      exact ⟨k, e, fun c hc => up (z c hc)⟩
    rw [tins_get hs hph] at e1
    rw [ew, tins_get _ hpl] at e2
    rcases Nat.lt_trichotomy i p with c | c | c
    · rw [if_pos c] at e1 e2
      exact old i e1 e2
    · rw [if_neg (by omega), if_pos c] at e1 e2
      cases e1
      cases e2
      exact ⟨K, hj, fun c hc => up (hb c hc)⟩
    · rw [if_neg (by omega), if_neg (by omega)] at e1 e2
      exact old (i - 1) e1 e2
  · show (t.put j).1.place.size + (t.put j).1.dummies.size = hs.length + 1
    rw [hsize, put_dm T.dm j]
    rfl
/-! ### the table laid anew -/
theorem free_at {m : Nat} (hm : Msk m) (owner : Array (Option Nat)) (h : Int) {j : Nat} (hj : j ≤ m) (hf : oAt owner j = none) :
    ∃ K, SetTable.layClean.free m owner (SetTable.turns m) (SetTable.bits h % (m + 1)) (SetTable.bits h) = some (way m h K) ∧ oAt owner (way m h K) = none ∧ ∀ c, c < K → oAt owner (way m h c) ≠ none := by
  obtain ⟨n, hn, e⟩ := hm.run h hj
  have hw : way m h (off m (SetTable.bits h % (m + 1)) (SetTable.bits h) n) = j := by
    show (nth m _ _).j = j
    rw [nth_off, itL_run]
    exact e
  obtain ⟨K, k1, k2, k3⟩ := st_least (p := fun k => oAt owner (way m h k) = none) _ (by rw [hw]; exact hf)
  refine ⟨K, free_spec m owner (SetTable.turns m) n _ _ K (by unfold SetTable.turns; omega) k1 (fun c hc => ?_) ?_, k2, k3⟩
  · have q := k3 c hc
    cases z : oAt owner (way m h c) with
    | none => exact absurd z q
    | some _ => rfl
  · show (oAt owner (way m h K)).isNone = true
    rw [k2]; rfl
theorem own_step {m : Nat} (hm : Msk m) {done : List Int} {owner : Array (Option Nat)} (W : Own m done owner) (hl : done.length ≤ m) (h : Int) :
    ∃ j, SetTable.layClean.free m owner (SetTable.turns m) (SetTable.bits h % (m + 1)) (SetTable.bits h) = some j ∧ Own m (done ++ [h]) (owner.setIfInBounds j (some done.length)) := by
  obtain ⟨ps, hps, hin⟩ := W.ps
  obtain ⟨j0, h0, hn0⟩ := st_missing ps (m + 1) (by omega)
  have hj0 : oAt owner j0 = none := Classical.byContradiction fun z => hn0 (hin j0 (Nat.le_of_lt_succ h0) z)
  obtain ⟨K, e1, e2, e3⟩ := free_at hm owner h (Nat.le_of_lt_succ h0) hj0
  have hin2 : way m h K ≤ m := way_in
  refine ⟨way m h K, e1, ?_⟩
  generalize hj : way m h K = j at e2 hin2 ⊢
  have self := oAt_set_self (some done.length) (show j < owner.size by rw [W.sz]; exact Nat.lt_succ_of_le hin2)
  have else_ : ∀ {i}, i ≠ j → oAt (owner.setIfInBounds j (some done.length)) i = oAt owner i := fun h => oAt_set_ne _ h
  have mono : ∀ {i : Nat}, oAt owner i ≠ none → oAt (owner.setIfInBounds j (some done.length)) i ≠ none := fun {i} hi => by
    by_cases c : i = j
    · rw [c, self]; exact fun e => nomatch e
    · rw [else_ c]; exact hi
  have app : ∀ {k : Nat} {x : Int}, done[k]? = some x → (done ++ [h])[k]? = some x := fun q => by rw [List.getElem?_append_left (List.getElem?_eq_some_iff.mp q).1]; exact q
  refine ⟨by rw [Array.size_setIfInBounds]; exact W.sz, fun i k hi e => ?_, fun k hk => ?_, j :: ps, by rw [List.length_cons, List.length_append, hps]; rfl, fun i hi e => ?_⟩
  · by_cases c : i = j
    · rw [c, self] at e
      cases e
      exact ⟨h, K, by simp, hj.trans c.symm, fun q hq => mono (e3 q hq)⟩
    · rw [else_ c] at e
      obtain ⟨x, q, a1, a2, a3⟩ := W.at_ i k hi e
      exact ⟨x, q, app a1, a2, fun r hr => mono (a3 r hr)⟩
  · rw [List.length_append, List.length_singleton] at hk
    by_cases c : k = done.length
    · exact ⟨j, hin2, by rw [c]; exact self⟩
    · obtain ⟨i, hi, e⟩ := W.all k (by omega)
      exact ⟨i, hi, by rw [else_ fun z => by rw [z, e2] at e; cases e]; exact e⟩
  · by_cases c : i = j
    · rw [c]; exact List.mem_cons_self
    · rw [else_ c] at e
      exact List.mem_cons_of_mem _ (hin i hi e)
theorem own_fold {m : Nat} (hm : Msk m) : ∀ (rest done : List Int) (owner : Array (Option Nat)), Own m done owner → done.length + rest.length ≤ m →
    ∃ out, rest.foldl (stepF m) (some (owner, done.length)) = some (out, (done ++ rest).length) ∧ Own m (done ++ rest) out
  | [], done, owner, W, _ => by rw [List.append_nil]; exact ⟨owner, rfl, W⟩
  | h :: rest, done, owner, W, hl => by
    rw [List.length_cons] at hl
    obtain ⟨j, e, W1⟩ := own_step hm W (by omega) h
    have hl1 : (done ++ [h]).length = done.length + 1 := by simp
    obtain ⟨out, f, W2⟩ := own_fold hm rest (done ++ [h]) _ W1 (by omega)
    rw [List.append_assoc, List.singleton_append] at f W2
    rw [hl1] at f
    exact ⟨out, by rw [List.foldl_cons, stepF_some e]; exact f, W2⟩
theorem relaidB (t : SetTable) {hs : Array Int} {wanted M : Nat} (hw : SetTable.sizeAbove wanted - 1 = M) (hM : Msk M) (hn : hs.size ≤ M) :
    ∃ t1 order, t.relaid hs wanted = some (t1, order) ∧ order.toList.Perm (List.range hs.size) ∧ TabB t1 (order.toList.map fun i => hs.getD i 0) ∧ t1.mask = M ∧ t1.led = t.led ∧ t1.plain = t.plain := by
  obtain ⟨owner, f, W⟩ := own_fold hM hs.toList [] _ (Own.init M) (by simpa using hn)
  rw [List.nil_append] at W f
  have lc : SetTable.layClean M hs = some owner := by
    rw [layClean_eq]
    have f : hs.toList.foldl (stepF M) (some (Array.replicate (M + 1) none, 0)) = some (owner, hs.toList.length) := f
    rw [f]; rfl
  have r := ris_live (fun j => owner.getD j none) (List.range (M + 1)) (by
    unfold Ris
    first | exact List.pairwise_lt_range | exact List.pairwise_lt_range _)
  have r1 : Ris ((liveOf M owner).map (·.1)) := r.1
  have r2 : ∀ x ∈ (liveOf M owner).map (·.1), x ∈ List.range (M + 1) := r.2
  have at_ : ∀ {j k : Nat}, (j, k) ∈ liveOf M owner ↔ j ≤ M ∧ oAt owner j = some k := mem_live W.sz
  have every : ∀ k, k < hs.size → k ∈ (liveOf M owner).map (·.2) := fun k hk => by
    obtain ⟨j, b1, b2⟩ := W.all k (by rw [Array.length_toList]; exact hk)
    exact List.mem_map.mpr ⟨(j, k), at_.2 ⟨b1, b2⟩, rfl⟩
  have hlen : (liveOf M owner).length = hs.size := by
    obtain ⟨ps, p1, p2⟩ := W.ps
    have nd : ((liveOf M owner).map (·.1)).Nodup := List.Pairwise.imp (fun h => Nat.ne_of_lt h) r1
    have a := nat_nodup_len ((liveOf M owner).map (·.1)) ps nd fun x hx => by
      obtain ⟨⟨y, k⟩, hq, rfl⟩ := List.mem_map.mp hx
      obtain ⟨b1, b2⟩ := at_.1 hq
      exact p2 y b1 (by rw [b2]; exact fun z => nomatch z)
    have b := nat_nodup_len (List.range hs.size) ((liveOf M owner).map (·.2)) List.nodup_range fun k hk => every k (List.mem_range.mp hk)
    rw [List.length_map, p1] at a
    rw [List.length_map, List.length_range] at b
    have hz : hs.toList.length = hs.size := rfl
    omega
  refine ⟨tabOf t M owner, ((liveOf M owner).map (·.2)).toArray, by rw [relaid_eq, hw, lc]; rfl, perm_range hs.size _ (by simpa using hlen) every, ⟨r1, rfl, by simp [tabOf], hM, fun x hx => Nat.le_of_lt_succ (List.mem_range.mp (r2 x hx)), fun i h j h1 h2 => ?_⟩, rfl, rfl, rfl⟩
  have h2 : ((liveOf M owner).map (·.1))[i]? = some j := h2
  have h1 : (((liveOf M owner).map (·.2)).map fun i => hs.getD i 0)[i]? = some h := h1
  rw [List.getElem?_map] at h2
  rw [List.getElem?_map, List.getElem?_map] at h1
  cases hq : (liveOf M owner)[i]? with
  | none => rw [hq] at h2; cases h2
  | some q =>
    obtain ⟨y, k⟩ := q
    rw [hq] at h1 h2
    cases h2
    cases h1
    obtain ⟨b1, b2⟩ := at_.1 (List.mem_of_getElem? hq)
    obtain ⟨x, K, a1, a2, a3⟩ := W.at_ _ _ b1 b2
    have ex : hs.getD k 0 = x := by rw [Array.getD_eq_getD_getElem?, ← Array.getElem?_toList, a1]; rfl
    show ∃ K, way M (hs.getD k 0) K = _ ∧ ∀ c, c < K → way M (hs.getD k 0) c ∈ (liveOf M owner).map (·.1)
    rw [ex]
    refine ⟨K, a2, fun c hc => ?_⟩
    have q := a3 c hc
    cases z : oAt owner (way M x c) with
    | none => exact absurd z q
    | some k2 => exact List.mem_map.mpr ⟨(_, k2), at_.2 ⟨way_in, z⟩, rfl⟩
theorem size_308 : SetTable.sizeAbove (SetTable.grown 77) = 512 := by decide +kernel
end DS
set_option Elab.async false
set_option linter.all false
set_option maxRecDepth 100000
set_option maxHeartbeats 1600000
/-! DS, part 1: one tuple of any depth put into a set. -/
namespace DS
open PySem PySem.Spec PyProof.Rows L2
abbrev Ky := NestedKey
mutual
/-- no texts in it -/
def bare : Ky → Bool
  | .text _ => false
  | .tup ks => bareL ks
  | .none => true
  | .num _ => true
def bareL : List Ky → Bool
  | [] => true
  | k :: ks => bare k && bareL ks
end
/-- at a stands the tuple k -/
structure TupK (h : Heap) (k : Ky) (a : Addr) : Prop where
  at_ : NestedIs h k (.ref a)
  dep : k.depth ≤ 7
  br : bare k = true
variable {P : Program} {w : World}
theorem TupK.grow {h g : Heap} {k : Ky} {a : Addr} (x : TupK h k a) (q : ∀ c o, h.get? c = some o → g.get? c = some o) : TupK g k a :=
  ⟨NestedIs.at (fun b ob vs n hb _ => q b ob hb) k _ x.at_, x.dep, x.br⟩
theorem TupK.past {h g : Heap} {k : Ky} {a b : Addr} {ob : Obj} {en : Array (Int × Value)} {ep : Nat} {tb : SetTable} (x : TupK h k b) (q : h.get? a = some ob) (hd : ob.data = .set en ep tb) (sm : Heap.SameBut a h g) : TupK g k b :=
  ⟨NestedIs.at (fun c oc vs n hc hv => by
    refine (sm.2 c fun e => ?_).trans hc
    subst e
    rw [q] at hc
    cases hc
    rw [hd] at hv
    cases hv) k _ x.at_, x.dep, x.br⟩
theorem TupK.ty {s : Shared} {k : Ky} {a : Addr} (x : TupK s.heap k a) : s.TypeIs (.ref a) "tuple" := by
  obtain ⟨x, _, _⟩ := x
  cases x with
  | tup h1 h2 _ _ => exact ⟨_, h1, h2⟩
theorem TupK.one {h : Heap} {k j : Ky} {a : Addr} (x : TupK h k a) (y : TupK h j a) : k = j := NestedIs.inj _ _ _ x.at_ y.at_
/-! ### what the set asks of its items -/
section
variable {A : Around} {E : Value → Shared → Prop}
/-- a loop over items that asks each one and stops at an answer -/
def NoCls (P : Program) (w : World) (n : Nat) (s : Shared) (v : Value) : Prop := ∀ (A : Around) (E : Value → Shared → Prop) (Q : Bool → Shared → Prop), Q false s → wpAny (model P w) A (ofAClassStatement n v) Q E s
def ByVal (P : Program) (w : World) (n : Nat) (s : Shared) (v : Value) : Prop := ∀ (A : Around) (E : Value → Shared → Prop) (Q : Bool → Shared → Prop), Q true s → wpAny (model P w) A (hashByValue n v) Q E s
theorem noCls_tup {n : Nat} {s : Shared} {a : Addr} {o : Obj} {vs : Array Value} {m : Nat} (ho : s.heap.get? a = some o) (hc : o.cls = .type "tuple") (hd : o.data = .seq vs m) (hq : ∀ v ∈ vs.toList, NoCls P w n s v) : NoCls P w (n + 1) s (.ref a) := fun A E Q fin => by
  have ht : s.TypeIs (.ref a) "tuple" := ⟨o, ho, hc⟩
  unfold ofAClassStatement
  refine wpAny_bind (wpAny_typeOf ht ?_)
  dsimp only
  simp only [show (("tuple" : String) == "tuple") = true by decide, if_true, Bool.not_true, Bool.false_eq_true, if_false]
  try refine wpAny_bind (wpAny_pure ?_)
  try simp only [Bool.not_true, Bool.false_eq_true, if_false]
  show wpAny _ _ (seqItems? (.ref a) >>= _) _ _ s
  refine wpAny_bind (wpAny_seqItems ho hd ?_)
  dsimp only
  refine wpAny_bind ?_
  show wpAny _ _ (forIn vs _ _) _ _ s
  rw [← Array.forIn_toList]
  refine wpAny_forIn_list _ (fun left st s1 => st.1 = none ∧ s1 = s ∧ ∀ v ∈ left, NoCls P w n s v) _ ?_ ?_ _ _ ⟨rfl, rfl, hq⟩
  · rintro v left st s1 ⟨e1, rfl, al⟩
    refine wpAny_bind (al v List.mem_cons_self _ _ _ ?_)
    simp only [Bool.false_eq_true, if_false]
    exact wpAny_pure ⟨rfl, rfl, fun u q => al u (List.mem_cons_of_mem _ q)⟩
  · rintro ⟨r1, r2⟩ s1 ⟨e1, rfl, _⟩
    simp only at e1
    subst e1
    exact wpAny_pure fin
theorem byVal_tup {n : Nat} {s : Shared} {a : Addr} {o : Obj} {vs : Array Value} {m : Nat} (ho : s.heap.get? a = some o) (hc : o.cls = .type "tuple") (hd : o.data = .seq vs m) (hq : ∀ v ∈ vs.toList, ByVal P w n s v) : ByVal P w (n + 1) s (.ref a) := fun A E Q fin => by
  have ht : s.TypeIs (.ref a) "tuple" := ⟨o, ho, hc⟩
  unfold hashByValue
  refine wpAny_bind (wpAny_specialOf ht F.slot_tuple_hash.lookup ?_)
  show wpAny _ _ (seqItems? (.ref a) >>= _) _ _ s
  refine wpAny_bind (wpAny_seqItems ho hd ?_)
  refine wpAny_bind ?_
  show wpAny _ _ (forIn vs _ _) _ _ s
  rw [← Array.forIn_toList]
  refine wpAny_forIn_list _ (fun left st s1 => st.1 = none ∧ s1 = s ∧ ∀ v ∈ left, ByVal P w n s v) _ ?_ ?_ _ _ ⟨rfl, rfl, hq⟩
  · rintro v left st s1 ⟨e1, rfl, al⟩
    refine wpAny_bind (al v List.mem_cons_self _ _ _ ?_)
    simp only [Bool.not_true, Bool.false_eq_true, if_false]
    exact wpAny_pure ⟨rfl, rfl, fun u q => al u (List.mem_cons_of_mem _ q)⟩
  · rintro ⟨r1, r2⟩ s1 ⟨e1, rfl, _⟩
    simp only at e1
    subst e1
    exact wpAny_pure fin
theorem noCls_plain {n : Nat} {s : Shared} {v : Value} (h : ofAClassStatement n v = pure false) : NoCls P w n s v := fun A E Q fin => by rw [h]; exact wpAny_pure fin
theorem byVal_plain {n : Nat} {s : Shared} {v : Value} (h : hashByValue n v = pure true) : ByVal P w n s v := fun A E Q fin => by rw [h]; exact wpAny_pure fin
mutual
theorem noCls_key : ∀ (k : Ky) (v : Value) (n : Nat) (s : Shared), NestedIs s.heap k v → k.depth ≤ n → NoCls P w n s v
  | .none, _, n, s, x, _ => by cases x; exact noCls_plain (by cases n <;> rfl)
  | .num i, _, n, s, x, _ => by cases x <;> exact noCls_plain (by cases n <;> rfl)
  | .text y, _, n, s, x, _ => by cases x; exact noCls_plain (by cases n <;> rfl)
  | .tup ks, _, n, s, x, hn => by
    cases x with
    | tup hg hc hd hk =>
      simp only [NestedKey.depth] at hn
      cases n with
      | zero => omega
      | succ n => exact noCls_tup hg hc hd (noCls_keys ks _ n s hk (by omega))
theorem noCls_keys : ∀ (ks : List Ky) (vs : List Value) (n : Nat) (s : Shared), NestedAll s.heap ks vs → NestedKey.depthAll ks ≤ n → ∀ v ∈ vs, NoCls P w n s v
  | [], _, n, s, x, _, v, hv => by cases x; cases hv
  | k :: ks, _, n, s, x, hn, v, hv => by
    cases x with
    | cons x1 x2 =>
      simp only [NestedKey.depthAll] at hn
      rcases List.mem_cons.mp hv with e | hv
      · rw [e]; exact noCls_key k _ n s x1 (by omega)
      · exact noCls_keys ks _ n s x2 (by omega) v hv
end
mutual
theorem byVal_key : ∀ (k : Ky) (v : Value) (n : Nat) (s : Shared), NestedIs s.heap k v → k.depth ≤ n → bare k = true → ByVal P w n s v
  | .none, _, n, s, x, _, _ => by cases x; exact byVal_plain (by cases n <;> rfl)
  | .num i, _, n, s, x, _, _ => by cases x <;> exact byVal_plain (by cases n <;> rfl)
  | .text y, _, n, s, x, _, b => by cases b
  | .tup ks, _, n, s, x, hn, b => by
    cases x with
    | tup hg hc hd hk =>
      simp only [NestedKey.depth] at hn
      cases n with
      | zero => omega
      | succ n => exact byVal_tup hg hc hd (byVal_keys ks _ n s hk (by omega) b)
theorem byVal_keys : ∀ (ks : List Ky) (vs : List Value) (n : Nat) (s : Shared), NestedAll s.heap ks vs → NestedKey.depthAll ks ≤ n → bareL ks = true → ∀ v ∈ vs, ByVal P w n s v
  | [], _, n, s, x, _, _, v, hv => by cases x; cases hv
  | k :: ks, _, n, s, x, hn, b, v, hv => by
    have b : (bare k && bareL ks) = true := b
    rw [Bool.and_eq_true] at b
    cases x with
    | cons x1 x2 =>
      simp only [NestedKey.depthAll] at hn
      rcases List.mem_cons.mp hv with e | hv
      · rw [e]; exact byVal_key k _ n s x1 (by omega) b.1
      · exact byVal_keys ks _ n s x2 (by omega) b.2 v hv
end
variable {s : Shared}
theorem TupK.quiet {k : Ky} {a : Addr} (x : TupK s.heap k a) {Q : Bool → Shared → Prop} (fin : Q true s) : wpAny (model P w) A (eqIsQuiet 8 (.ref a)) Q E s := quiet_key k _ 8 s x.at_ (Nat.le_succ_of_le x.dep) A E Q fin
theorem TupK.noCls {k : Ky} {a : Addr} (x : TupK s.heap k a) {Q : Bool → Shared → Prop} (fin : Q false s) : wpAny (model P w) A (ofAClassStatement 8 (.ref a)) Q E s := noCls_key k _ 8 s x.at_ (Nat.le_succ_of_le x.dep) A E Q fin
theorem TupK.byVal {k : Ky} {a : Addr} (x : TupK s.heap k a) {Q : Bool → Shared → Prop} (fin : Q true s) : wpAny (model P w) A (hashByValue 8 (.ref a)) Q E s := byVal_key k _ 8 s x.at_ (Nat.le_succ_of_le x.dep) x.br A E Q fin
theorem TupK.hashed {k : Ky} {a : Addr} (x : TupK s.heap k a) (hu : A.units + 8 < cLine) {Q : Int → Shared → Prop} (fin : Q (k.hash w) { s with toks := s.toks + k.draws }) : wpAny (model P w) A (pyHash (.ref a)) Q E s :=
  pyHash_key k _ A s Q x.at_ (by have := x.dep; omega) fin
theorem TupK.same {k j : Ky} {a b : Addr} (x : TupK s.heap k a) (y : TupK s.heap j b) (hu : A.units + 8 < cLine) {Q : Bool → Shared → Prop} (fin : Q (decide (k = j)) s) : wpAny (model P w) A (eqBool (.ref a) (.ref b)) Q E s :=
  eqAt_key k j A s _ _ x.at_ y.at_ (by have := x.dep; omega) _ _ _ _ (by rw [← NestedKey.decide_eq]; exact fin)
/-- nothing is shown by a search among such -/
theorem unseen {k : Ky} {a : Addr} (x : TupK s.heap k a) {ys : List Value} (hy : ∀ y ∈ ys, ∃ j c, y = Value.ref c ∧ TupK s.heap j c) {Q : Bool → Shared → Prop} (fin : Q false s) :
    wpAny (model P w) A (searchCouldBeSeen (.ref a) ys) Q E s := by
  unfold searchCouldBeSeen
  refine wpAny_bind ?_
  refine wpAny_forIn_list _ (fun left st s1 => st.1 = none ∧ s1 = s ∧ ∀ y ∈ left, ∃ j c, y = Value.ref c ∧ TupK s.heap j c) _ ?_ ?_ _ _ ⟨rfl, rfl, hy⟩
  · rintro v left st s1 ⟨e1, rfl, al⟩
    obtain ⟨j, c, rfl, hc⟩ := al v List.mem_cons_self
    have al' : ∀ y ∈ left, ∃ j c, y = Value.ref c ∧ TupK s1.heap j c := fun u q => al u (List.mem_cons_of_mem _ q)
    dsimp only
    by_cases hv : (a == c || (carriedByValue (.ref a) && carriedByValue (.ref c))) = true
    · exact wp_if_pos hv (wpAny_pure ⟨rfl, rfl, al'⟩)
    · refine wp_if_neg hv (wpAny_bind (x.quiet ?_))
      simp only [Bool.not_true, Bool.false_eq_true, if_false]
      refine wpAny_bind (hc.quiet ?_)
      simp only [Bool.not_true, Bool.false_eq_true, if_false]
      refine wpAny_bind (x.noCls ?_)
      simp only [Bool.false_eq_true, if_false]
      refine wpAny_bind (hc.noCls ?_)
      simp only [Bool.false_eq_true, if_false]
      exact wpAny_pure ⟨rfl, rfl, al'⟩
  · rintro ⟨r1, r2⟩ s1 ⟨e1, rfl, _⟩
    simp only at e1
    subst e1
    exact wpAny_pure fin
end
/-! ### the set -/
/-- its entries: of each tuple, where it stands and what it is -/
def ents (w : World) (L : List (Addr × Ky)) : List (Int × Value) := L.map fun p => (p.2.hash w, Value.ref p.1)
theorem ents_len {w : World} {L : List (Addr × Ky)} {en : Array (Int × Value)} (h : en.toList = ents w L) : en.size = L.length := by
  have q := congrArg List.length h
  unfold ents at q
  rwa [Array.length_toList, List.length_map] at q
structure SetK (w : World) (h : Heap) (a : Addr) (L : List (Addr × Ky)) (en : Array (Int × Value)) (ep : Nat) (tb : SetTable) : Prop where
  ob : ∃ o, h.get? a = some o ∧ o.ExactSet ∧ o.data = .set en ep tb
  rows : en.toList = ents w L
  tab : TabB tb (L.map fun p => p.2.hash w)
  nd : (L.map (·.2)).Nodup
  tup : ∀ p ∈ L, TupK h p.2 p.1
  plain : tb.plain = true
  led : w.params.followText "set-order" = true ∨ tb.led = true
  room : L.length * 5 < tb.mask * 3
  few : L.length < 300
section
variable {A : Around} {E : Value → Shared → Prop} {s : Shared} {a : Addr} {L : List (Addr × Ky)} {en : Array (Int × Value)} {ep : Nat} {tb : SetTable}
theorem SetK.fits (R : SetK w s.heap a L en ep tb) : tb.fits en.size = true := by
  have h1 := R.tab.sz
  have h2 := ents_len R.rows
  have h3 := R.room
  rw [List.length_map] at h1
  unfold SetTable.fits SetTable.fill
  rw [R.tab.dm, Bool.and_eq_true, beq_iff_eq, decide_eq_true_eq]
  show tb.place.size = en.size ∧ tb.place.size + 0 ≤ tb.mask
  omega
theorem SetK.entry (R : SetK w s.heap a L en ep tb) {i : Nat} {p : Addr × Ky} (h : L[i]? = some p) : en[i]? = some (p.2.hash w, Value.ref p.1) := by
  rw [← Array.getElem?_toList, R.rows]
  show (L.map fun p => (p.2.hash w, Value.ref p.1))[i]? = _
  rw [List.getElem?_map, h]
  rfl
abbrev st0 (m : Nat) (x : Int) : SetTable.Probe := runAt m (SetTable.bits x % (m + 1)) (SetTable.bits x)
theorem nth_clean (m : Nat) : ∀ (n : Nat) (p : SetTable.Probe), p.dummy = none → (nth m p n).dummy = none
  | 0, p, h => h
  | n + 1, p, h => nth_clean m n (adv m p) (by unfold adv; split <;> exact h)
/-- the search goes on from its c-th step -/
theorem seek (R : SetK w s.heap a L en ep tb) {x : Addr} {k : Ky} (hx : TupK s.heap k x) (hu : A.units + 8 < cLine) {K : Nat} (hKf : K < 10 * SetTable.turns tb.mask)
    (hK : way tb.mask (k.hash w) K ∉ tb.place.toList) (hKb : ∀ c, c < K → way tb.mask (k.hash w) c ∈ tb.place.toList) {Q : SetFound → Shared → Prop}
    (yes : k ∈ L.map (·.2) → Q (.there none) s) (no : k ∉ L.map (·.2) → Q (.free (way tb.mask (k.hash w) K) false) s) :
    ∀ (f c : Nat) (sd : Option SetTable.Probe), sd.getD (tb.probeStart (k.hash w)) = nth tb.mask (st0 tb.mask (k.hash w)) c → c ≤ K → K - c < f →
      (∀ (i : Nat) p, L[i]? = some p → p.2 = k → ∃ d, c ≤ d ∧ d < K ∧ tb.place.toList[i]? = some (way tb.mask (k.hash w) d)) → wpAny (model P w) A (setSearchFrom a (.ref x) (k.hash w) true f sd) Q E s := by
  intro f
  induction f with
  | zero => intro c sd _ _ hf _; exact absurd hf (Nat.not_lt_zero _)
  | succ f ih =>
    intro c sd hsd hc hf reach
    obtain ⟨o, ho, hex, hd⟩ := R.ob
    have odd : ¬ tb.gaveWay = true := by
      unfold SetTable.gaveWay
      rw [R.tab.msk.odd]
      decide
    rw [setSearchFrom_succ]
    refine wpAny_bind (wpAny_setState_of ho hd R.fits ?_)
    dsimp only
    refine wp_if_neg odd ?_
    try refine wpAny_bind (wpAny_pure ?_)
    have jump : ∀ q, nth tb.mask (nth tb.mask (st0 tb.mask (k.hash w)) c) q = nth tb.mask (st0 tb.mask (k.hash w)) (c + q) := fun q => (nth_add tb.mask c _ q).symm
    have jw : ∀ q, (nth tb.mask (nth tb.mask (st0 tb.mask (k.hash w)) c) q).j = way tb.mask (k.hash w) (c + q) := fun q => congrArg SetTable.Probe.j (jump q)
    have hs_ : ∀ (i : Nat) p, L[i]? = some p → (fun i => (en[i]?.map (·.1)).getD 0) i = p.2.hash w := fun i p hp => by
      show (en[i]?.map (·.1)).getD 0 = _
      rw [R.entry hp]
      rfl
    rcases go_spec tb R.tab.ris R.tab.dm (fun i => (en[i]?.map (·.1)).getD 0) (k.hash w) (10 * SetTable.turns tb.mask) (K - c) _ (nth_clean tb.mask c _ rfl) (by omega)
      (fun q hq => by rw [jw]; exact hKb (c + q) (by omega)) (by rw [jw, show c + (K - c) = K by omega]; exact hK) with ⟨q, i, hq, hi, hh, hno, hpr⟩ | ⟨hno, hpr⟩
    · have met : tb.probe (fun i => (en[i]?.map (·.1)).getD 0) (k.hash w) (sd.getD (tb.probeStart (k.hash w))) = some (.candidate (way tb.mask (k.hash w) (c + q)) i (nth tb.mask (st0 tb.mask (k.hash w)) (c + (q + 1)))) := by
        rw [hsd, ← jw, ← jump]
        exact hpr
      rw [met]
      dsimp only
      rw [jw] at hi
      have hil : i < L.length := by
        have h1 : i < tb.place.toList.length := (List.getElem?_eq_some_iff.mp hi).1
        have h2 := R.tab.sz
        rw [List.length_map] at h2
        rw [Array.length_toList] at h1
        omega
      obtain ⟨p, hp⟩ : ∃ p, L[i]? = some p := ⟨_, List.getElem?_eq_getElem hil⟩
      have hm : p ∈ L := List.mem_of_getElem? hp
      have go : wpAny (model P w) A (searchRest a (.ref x) (k.hash w) true f en tb (way tb.mask (k.hash w) (c + q)) i (nth tb.mask (st0 tb.mask (k.hash w)) (c + (q + 1)))) Q E s := by
        unfold searchRest
        rw [R.entry hp]
        dsimp only
        refine wpAny_bind (wpAny_holding ((R.tup p hm).same hx hu ?_))
        refine wpAny_bind (wpAny_setState_of ho hd R.fits ?_)
        dsimp only
        by_cases eq : p.2 = k
        · exact wp_if_pos (by simp [eq]) (wpAny_pure (yes (List.mem_map.mpr ⟨p, hm, eq⟩)))
        · refine wp_if_neg (by simp [eq]) ?_
          try refine wpAny_bind (wpAny_pure ?_)
          rw [sameMem]
          dsimp only
          have live : tb.slot (way tb.mask (k.hash w) (c + q)) = .live i := slot_live R.tab.ris hi
          simp only [if_true, live, R.entry hp]
          refine wpAny_bind (wpAny_isSame_ref_self (wpAny_bind (wpAny_pure ?_)))
          simp only [if_true]
          refine wp_if_neg (by simp [eq]) ?_
          refine ih (c + (q + 1)) _ rfl (by omega) (by omega) fun i0 p0 h0 hk0 => ?_
          obtain ⟨d, a1, a2, a3⟩ := reach i0 p0 h0 hk0
          refine ⟨d, ?_, a2, a3⟩
          rcases Nat.lt_trichotomy d (c + q) with z | z | z
          · refine absurd ?_ (hno (d - c) i0 (by omega) (by rw [jw, show c + (d - c) = d by omega]; exact a3))
            exact (hs_ i0 p0 h0).trans (congrArg (NestedKey.hash w) hk0)
          · exfalso
            rw [z] at a3
            have l0 := slot_live R.tab.ris a3
            rw [live] at l0
            injection l0 with l0
            rw [← l0, hp] at h0
            exact eq ((congrArg Prod.snd (Option.some.inj h0)).trans hk0)
          · omega
      by_cases hl : tb.led = true
      · refine wp_if_neg (by simp [hl]) ?_
        try refine wpAny_bind (wpAny_pure ?_)
        exact go
      · refine wp_if_pos (by simp [hl]) (wpAny_bind (unseen hx (fun y hy => ?_) ?_))
        · obtain ⟨e, he, ee⟩ := List.mem_map.mp hy
          have he2 : e ∈ en.toList := by
            have : e ∈ en ∧ e.1 = k.hash w := by simpa using he
            simpa using this.1
          rw [R.rows] at he2
          obtain ⟨p2, hp2, e2⟩ := List.mem_map.mp he2
          exact ⟨p2.2, p2.1, by rw [← ee, ← e2], R.tup p2 hp2⟩
        · refine wp_if_neg (by decide) ?_
          try refine wpAny_bind (wpAny_pure ?_)
          exact go
    · have met : tb.probe (fun i => (en[i]?.map (·.1)).getD 0) (k.hash w) (sd.getD (tb.probeStart (k.hash w))) = some (.empty (way tb.mask (k.hash w) K) none) := by
        have e2 : way tb.mask (k.hash w) K = (nth tb.mask (nth tb.mask (st0 tb.mask (k.hash w)) c) (K - c)).j := by
          rw [jw, show c + (K - c) = K by omega]
        rw [hsd, e2]
        exact hpr
      rw [met]
      dsimp only
      refine wpAny_pure (no fun hm => ?_)
      obtain ⟨p0, h0, hk0⟩ := List.mem_map.mp hm
      obtain ⟨i0, hi0, e0⟩ := List.getElem_of_mem h0
      have h00 : L[i0]? = some p0 := by rw [List.getElem?_eq_getElem hi0, e0]
      obtain ⟨d, a1, a2, a3⟩ := reach i0 p0 h00 hk0
      refine hno (d - c) i0 (by omega) (by rw [jw, show c + (d - c) = d by omega]; exact a3) ?_
      exact (hs_ i0 p0 h00).trans (congrArg (NestedKey.hash w) hk0)
/-- the search as adding asks for it -/
theorem seek0 (R : SetK w s.heap a L en ep tb) {x : Addr} {k : Ky} (hx : TupK s.heap k x) (hu : A.units + 8 < cLine) {Q : SetFound → Shared → Prop} (yes : k ∈ L.map (·.2) → Q (.there none) s)
    (no : ∀ K, k ∉ L.map (·.2) → way tb.mask (k.hash w) K ∉ tb.place.toList → (∀ c, c < K → way tb.mask (k.hash w) c ∈ tb.place.toList) → Q (.free (way tb.mask (k.hash w) K) false) s) :
    wpAny (model P w) A (setSearch a (.ref x) (k.hash w) true) Q E s := by
  obtain ⟨K, hKf, hK, hKb⟩ := R.tab.first (by rw [List.length_map]; have := R.room; omega) (k.hash w)
  have lim : 10 * SetTable.turns tb.mask ≤ 5260 := by
    unfold SetTable.turns
    rcases R.tab.msk with e | e | e | e <;> omega
  unfold setSearch
  refine seek R hx hu hKf hK hKb yes (fun n => no K n hK hKb) 100000 0 none rfl (Nat.zero_le _) (by omega) fun i p hp hk => ?_
  have hi : (L.map fun p => p.2.hash w)[i]? = some (k.hash w) := by rw [List.getElem?_map, hp, ← hk]; rfl
  have hil : i < tb.place.toList.length := by
    have h1 : i < L.length := (List.getElem?_eq_some_iff.mp hp).1
    have h2 := R.tab.sz
    rw [List.length_map] at h2
    rw [Array.length_toList]
    omega
  have hj := List.getElem?_eq_getElem hil
  obtain ⟨c, hc, e⟩ := R.tab.before hK hi hj
  exact ⟨c, Nat.zero_le _, hc, by rw [hj, e]⟩
end
end DS
set_option Elab.async false
set_option linter.all false
set_option maxRecDepth 100000
set_option maxHeartbeats 3200000
/-! DS, part 2: set(xs), xs a list of tuples of any depth. -/
namespace DS
open PySem PySem.Spec PyProof.Rows L2
variable {P : Program} {w : World}
theorem ents_put (L : List (Addr × Ky)) (n : Nat) (p : Addr × Ky) : ents w (L.take n ++ p :: L.drop n) = (ents w L).take n ++ (p.2.hash w, Value.ref p.1) :: (ents w L).drop n := by
  unfold ents
  rw [List.map_append, List.map_cons, List.map_take, List.map_drop]
/-- the entries taken in another order -/
theorem ents_order (L : List (Addr × Ky)) (en : Array (Int × Value)) (order : Array Nat) (hr : en.toList = ents w L) (hp : order.toList.Perm (List.range L.length)) :
    ∃ M, (order.filterMap (en[·]?)).toList = ents w M ∧ M.Perm L ∧ (M.map fun p => p.2.hash w) = order.toList.map fun i => (en.map (·.1)).getD i 0 := by
  have hsz := ents_len hr
  have ent : ∀ i (h : i < L.length), en[i]? = some ((L[i]).2.hash w, Value.ref (L[i]).1) := fun i h => by
    rw [← Array.getElem?_toList, hr]
    show (L.map fun p => (p.2.hash w, Value.ref p.1))[i]? = _
    rw [List.getElem?_map, List.getElem?_eq_getElem h]
    rfl
  have key : ∀ l : List Nat, (∀ i ∈ l, i < L.length) → ∃ M : List (Addr × Ky), l.filterMap (fun i => en[i]?) = ents w M ∧ M = l.filterMap (fun i => L[i]?) ∧ (M.map fun p => p.2.hash w) = l.map fun i => (en.map (·.1)).getD i 0 := by
    intro l
    induction l with
    | nil => intro _; exact ⟨[], rfl, rfl, rfl⟩
    | cons i l ih =>
      intro hl
      have hi := hl i List.mem_cons_self
      obtain ⟨M, e1, e2, e3⟩ := ih fun j hj => hl j (List.mem_cons_of_mem _ hj)
      have e5 : (en.map (·.1))[i]? = some ((L[i]).2.hash w) := by rw [Array.getElem?_map, ent i hi]; rfl
      have e4 : (en.map (·.1)).getD i 0 = (L[i]).2.hash w := by simp [Array.getD_eq_getD_getElem?, e5]
      exact ⟨L[i] :: M, by rw [List.filterMap_cons_some (ent i hi), e1]; rfl, by rw [List.filterMap_cons_some (List.getElem?_eq_getElem hi), e2], by rw [List.map_cons, List.map_cons, e3, e4]⟩
  obtain ⟨M, e1, e2, e3⟩ := key order.toList fun i hi => List.mem_range.mp (hp.mem_iff.mp hi)
  refine ⟨M, by first | (rw [Array.toList_filterMap]; exact e1) | simpa using e1, ?_, e3⟩
  have all : (List.range L.length).filterMap (fun i => L[i]?) = L := by
    have part : ∀ n, n ≤ L.length → (List.range n).filterMap (fun i => L[i]?) = L.take n := fun n => by
      induction n with
      | zero => intro _; rfl
      | succ n ih =>
        intro hn
        rw [List.range_succ, List.filterMap_append, ih (by omega), List.take_succ, List.getElem?_eq_getElem (show n < L.length from hn), List.filterMap_cons_some (List.getElem?_eq_getElem (show n < L.length from hn))]
        rfl
    rw [part L.length (Nat.le_refl _), List.take_length]
  have q : M.Perm ((List.range L.length).filterMap fun i => L[i]?) := by rw [e2]; exact hp.filterMap _
  rwa [all] at q
section
variable {A : Around} {E : Value → Shared → Prop} {s : Shared} {a : Addr} {L : List (Addr × Ky)} {en : Array (Int × Value)} {ep : Nat} {tb : SetTable}
/-- the table laid anew -/
theorem relay {o : Obj} (ho : s.heap.get? a = some o) (hex : o.ExactSet) (hd : o.data = .set en ep tb) (hr : en.toList = ents w L) (hsz : tb.place.size = en.size) (hdm : tb.dummies = #[]) (hfl : en.size ≤ tb.mask)
    (nd : (L.map (·.2)).Nodup) (tup : ∀ p ∈ L, TupK s.heap p.2 p.1) (pl : tb.plain = true) (ld : w.params.followText "set-order" = true ∨ tb.led = true) (few : L.length < 300) {wanted M : Nat}
    (hw : SetTable.sizeAbove wanted - 1 = M) (hM : Msk M) (hw2 : SetTable.sizeAbove wanted ≤ 512) (hn : L.length * 5 < M * 3) {Q : Unit → Shared → Prop}
    (fin : ∀ g L1 en1 ep1 tb1, Heap.SameBut a s.heap g → SetK w g a L1 en1 ep1 tb1 → L1.Perm L → Q () { s with heap := g }) : wpAny (model P w) A (setRelay a wanted) Q E s := by
  have hsl := ents_len hr
  have hfits : tb.fits en.size = true := by
    unfold SetTable.fits SetTable.fill
    rw [hdm, Bool.and_eq_true, beq_iff_eq, decide_eq_true_eq]
    show tb.place.size = en.size ∧ tb.place.size + 0 ≤ tb.mask
    omega
  obtain ⟨tb1, order, e, hp, T, em, el, epl⟩ := relaidB tb (hs := en.map (·.1)) (wanted := wanted) hw hM (by rw [Array.size_map, hsl]; omega)
  rw [Array.size_map, hsl] at hp
  obtain ⟨L1, r1, r2, r3⟩ := ents_order L en order hr hp
  rw [← r3] at T
  have hs1 : (order.filterMap (en[·]?)).size = en.size := by rw [ents_len r1, r2.length_eq, hsl]
  rw [setRelay_eq]
  refine wpAny_bind (wpAny_setState_of ho hd hfits ?_)
  dsimp only
  refine wp_if_neg (by rw [sizeLine_eq]; omega) ?_
  try refine wpAny_bind (wpAny_pure ?_)
  rw [e]
  dsimp only
  refine wpAny_bind (wp_if_neg (by rw [hs1]; simp) ?_)
  try refine wpAny_bind (wpAny_pure ?_)
  refine wpAny_pure ?_
  dsimp only
  refine wpAny_storeSet_of ho hd ?_ (by rw [hs1, hsl, sizeLine_eq]; omega)
  have sb : Heap.SameBut a s.heap (s.heap.update a (Obj.putSet (order.filterMap (en[·]?)) tb1)) := Heap.SameBut.update ..
  refine fin _ L1 (order.filterMap (en[·]?)) (ep + 1) tb1 sb ⟨⟨_, store_at ho hd, ⟨hex.1, hex.2.1, hex.2.2⟩, rfl⟩, r1, T, (r2.map (·.2)).nodup_iff.mpr nd, fun p hpm => (tup p (r2.mem_iff.mp hpm)).past ho hd sb, by rw [epl]; exact pl, by rw [el]; exact ld, ?_, by rw [r2.length_eq]; exact few⟩ r2
  rw [r2.length_eq, em]
  exact hn
/-- one put in -/
theorem put1 (R : SetK w s.heap a L en ep tb) {x : Addr} {k : Ky} (hx : TupK s.heap k x) (hu : A.units + 8 < cLine) (hfew : L.length + 1 < 300) {Q : Bool → Shared → Prop}
    (fin : ∀ b g L1 en1 ep1 tb1, Heap.SameBut a s.heap g → SetK w g a L1 en1 ep1 tb1 → (k ∈ L.map (·.2) → L1 = L) → (k ∉ L.map (·.2) → L1.Perm ((x, k) :: L)) → Q b { s with heap := g }) :
    wpAny (model P w) A (setAddHashed a (.ref x) (k.hash w)) Q E s := by
  obtain ⟨o, ho, hex, hd⟩ := R.ob
  have hsl := ents_len R.rows
  have hroom := R.room
  unfold setAddHashed
  refine wpAny_holding ?_
  rw [show (100000 : Nat) = 99999 + 1 from rfl, setAddHashedIn_succ]
  refine wpAny_bind (wpAny_setState_of ho hd R.fits ?_)
  dsimp only
  refine wp_if_neg (by simp [byScan, Value.scannable]) ?_
  try refine wpAny_bind (wpAny_pure ?_)
  refine wpAny_bind (seek0 R hx hu (fun hm => ?_) fun K hm hK hb => ?_)
  · dsimp only
    exact wpAny_pure (fin false s.heap L en ep tb (Heap.SameBut.refl a s.heap) R (fun _ => rfl) fun z => absurd hm z)
  · dsimp only
    refine wpAny_bind (wpAny_setState_of ho hd R.fits ?_)
    dsimp only
    obtain ⟨q1, q2, q3, q4, q5, q6, q9⟩ := R.tab.put hK hb
    have hp1 : (tb.put (way tb.mask (k.hash w) K)).1.plain = true := by rw [q6]; exact R.plain
    generalize hpt : tb.put (way tb.mask (k.hash w) K) = pt at q1 q3 q4 q5 q6 q9 hp1 ⊢
    obtain ⟨tb1, n⟩ := pt
    dsimp only at q1 q3 q4 q5 q6 q9 hp1 ⊢
    subst q1
    first
      | (refine wpAny_bind ?_; refine wp_if_pos hp1 ?_; refine hx.byVal ?_)
      | refine wp_if_pos hp1 (wpAny_bind (hx.byVal ?_))
    simp only [if_true]
    have hin : (SetTable.insertAt en (SetTable.below tb.place (way tb.mask (k.hash w) K)) (k.hash w, Value.ref x)).toList = ents w (L.take (SetTable.below tb.place (way tb.mask (k.hash w) K)) ++ (x, k) :: L.drop (SetTable.below tb.place (way tb.mask (k.hash w) K))) := by
      rw [SetTable.toList_insertAt, ents_put, R.rows]
    generalize SetTable.below tb.place (way tb.mask (k.hash w) K) = n at q2 q3 hin ⊢
    have pm := put_perm L n (x, k)
    have hhs : (L.take n ++ (x, k) :: L.drop n).map (fun p => p.2.hash w) = (L.map fun p => p.2.hash w).take n ++ k.hash w :: (L.map fun p => p.2.hash w).drop n := by
      rw [List.map_append, List.map_cons, List.map_take, List.map_drop]
    rw [← hhs] at q3
    have nd1 : ((L.take n ++ (x, k) :: L.drop n).map (·.2)).Nodup := by
      refine (pm.map (·.2)).nodup_iff.mpr ?_
      rw [List.map_cons]
      exact List.nodup_cons.mpr ⟨hm, R.nd⟩
    generalize SetTable.insertAt en n (k.hash w, Value.ref x) = en1 at hin ⊢
    generalize L.take n ++ (x, k) :: L.drop n = L1 at pm q3 nd1 hin
    have hlen : L1.length = L.length + 1 := pm.length_eq
    have hes : en1.size = L.length + 1 := by rw [ents_len hin, hlen]
    refine wpAny_bind (wpAny_storeSet_of ho hd ?_ (by rw [hes, sizeLine_eq]; omega))
    have sb : Heap.SameBut a s.heap (s.heap.update a (Obj.putSet en1 tb1)) := Heap.SameBut.update ..
    have ho1 := store_at (es' := en1) (t' := tb1) ho hd
    generalize s.heap.update a (Obj.putSet en1 tb1) = g1 at sb ho1 ⊢
    have tup1 : ∀ p ∈ L1, TupK g1 p.2 p.1 := fun p hp => by
      rcases List.mem_cons.mp (pm.mem_iff.mp hp) with e | hp
      · rw [e]; exact hx.past ho hd sb
      · exact (R.tup p hp).past ho hd sb
    have ld1 : w.params.followText "set-order" = true ∨ tb1.led = true := by rw [q5]; exact R.led
    have full : tb1.tooFull = true ↔ (L.length + 1) * 5 ≥ tb.mask * 3 := by
      unfold SetTable.tooFull
      rw [decide_eq_true_eq, q9, List.length_map, q4]
    by_cases hf : tb1.tooFull = true
    · first
        | (refine wpAny_bind ?_; refine wp_if_pos (by simp [hf]) ?_)
        | (refine wp_if_pos (by simp [hf]) ?_; refine wpAny_bind ?_)
      have hfull := full.mp hf
      rw [hsl]
      have hsz1 : tb1.place.size = en1.size := by
        have h := q3.sz
        rw [List.length_map, hlen] at h
        rw [h, hes]
      have two : (tb.mask = 7 ∧ L.length = 4) ∨ (tb.mask = 31 ∧ L.length = 18) ∨ (tb.mask = 127 ∧ L.length = 76) := by
        rcases R.tab.msk with e | e | e | e
        · rw [e] at hfull hroom; exact .inl ⟨e, by omega⟩
        · rw [e] at hfull hroom; exact .inr (.inl ⟨e, by omega⟩)
        · rw [e] at hfull hroom; exact .inr (.inr ⟨e, by omega⟩)
        · exfalso; rw [e] at hfull; omega
      have go : ∀ M, SetTable.sizeAbove (SetTable.grown (L.length + 1)) - 1 = M → Msk M → SetTable.sizeAbove (SetTable.grown (L.length + 1)) ≤ 512 → (L.length + 1) * 5 < M * 3 →
          wpAny (model P w) A (setRelay a (SetTable.grown (L.length + 1))) (fun _ s1 => wpAny (model P w) A (pure true) Q E s1) E { s with heap := g1 } := fun M b1 b2 b3 b4 =>
        relay (s := { s with heap := g1 }) ho1 ⟨hex.1, hex.2.1, hex.2.2⟩ rfl hin hsz1 q3.dm (by rw [hes, q4]; rcases two with ⟨e, e2⟩ | ⟨e, e2⟩ | ⟨e, e2⟩ <;> omega) nd1 tup1 hp1 ld1 (by rw [hlen]; exact hfew) b1 b2 b3 (by rw [hlen]; exact b4)
          fun g2 L2 en2 ep2 tb2 sb2 R2 pm2 => wpAny_pure (fin true g2 L2 en2 ep2 tb2 (sb.trans sb2) R2 (fun z => absurd z hm) fun _ => pm2.trans pm)
      rcases two with ⟨_, e2⟩ | ⟨_, e2⟩ | ⟨_, e2⟩
      · exact go 31 (by rw [e2, size_20]) (.inr (.inl rfl)) (by rw [e2, size_20]; decide) (by omega)
      · exact go 127 (by rw [e2, size_76]) (.inr (.inr (.inl rfl))) (by rw [e2, size_76]; decide) (by omega)
      · exact go 511 (by rw [e2, size_308]) (.inr (.inr (.inr rfl))) (by rw [e2, size_308]; decide) (by omega)
    · have nf := mt full.mpr hf
      first
        | refine wp_if_neg (by simp [hf]) ?_
        | (refine wpAny_bind ?_; refine wp_if_neg (by simp [hf]) ?_; refine wpAny_pure ?_)
      exact wpAny_pure (fin true g1 L1 en1 (ep + 1) tb1 sb ⟨⟨_, ho1, ⟨hex.1, hex.2.1, hex.2.2⟩, rfl⟩, hin, q3, nd1, tup1, hp1, ld1, by rw [hlen, q4]; omega, by rw [hlen]; exact hfew⟩ (fun z => absurd z hm) fun _ => pm)
end
/-- what stands in the set when the first i are put in -/
structure Put (ks : List (Addr × Ky)) (i : Nat) (L : List (Addr × Ky)) : Prop where
  sub : ∀ p ∈ L, p ∈ ks.take i
  all : ∀ p ∈ ks.take i, p.2 ∈ L.map (·.2)
  len : L.length ≤ i
theorem Put.old {ks L : List (Addr × Ky)} {i : Nat} {x : Addr × Ky} (g : Put ks i L) (h : ks[i]? = some x) (hm : x.2 ∈ L.map (·.2)) : Put ks (i + 1) L where
  sub := fun p hp => by rw [L2.take_next h]; exact List.mem_append_left _ (g.sub p hp)
  all := fun p hp => by
    rw [L2.take_next h] at hp
    rcases List.mem_append.mp hp with z | z
    · exact g.all p z
    · rw [List.mem_singleton.mp z]; exact hm
  len := Nat.le_succ_of_le g.len
theorem Put.new {ks L M : List (Addr × Ky)} {i : Nat} {x : Addr × Ky} (g : Put ks i L) (h : ks[i]? = some x) (pm : M.Perm (x :: L)) : Put ks (i + 1) M where
  sub := fun p hp => by
    rw [L2.take_next h]
    rcases List.mem_cons.mp (pm.mem_iff.mp hp) with e | z
    · rw [e]; exact List.mem_append_right _ (List.mem_singleton.mpr rfl)
    · exact List.mem_append_left _ (g.sub p z)
  all := fun p hp => by
    rw [(pm.map (·.2)).mem_iff, List.map_cons]
    rw [L2.take_next h] at hp
    rcases List.mem_append.mp hp with z | z
    · exact List.mem_cons_of_mem _ (g.all p z)
    · rw [List.mem_singleton.mp z]; exact List.mem_cons_self
  len := by rw [pm.length_eq, List.length_cons]; exact Nat.succ_le_succ g.len
theorem SetK.keep {h g : Heap} {a : Addr} {L : List (Addr × Ky)} {en : Array (Int × Value)} {ep : Nat} {tb : SetTable} (R : SetK w h a L en ep tb) (ha : ∀ o, h.get? a = some o → g.get? a = some o) (ht : ∀ p ∈ L, TupK g p.2 p.1) : SetK w g a L en ep tb := by
  obtain ⟨o, ho, r⟩ := R.ob
  exact ⟨⟨o, ha o ho, r⟩, R.rows, R.tab, R.nd, ht, R.plain, R.led, R.room, R.few⟩
abbrev newSetObj (w : World) : Obj := { cls := .type "set", dict := none, data := .set #[] 0 (.fresh 0 0 (!w.params.followText "set-order")) }
theorem setK_new {h : Heap} {a : Addr} (ho : h.get? a = some (newSetObj w)) : SetK w h a [] #[] 0 (.fresh 0 0 (!w.params.followText "set-order")) where
  ob := ⟨_, ho, ⟨rfl, rfl, rfl⟩, rfl⟩
  rows := rfl
  tab := ⟨List.Pairwise.nil, rfl, rfl, .inl rfl, fun x hx => (by cases hx), fun i h j hi => (by simp at hi)⟩
  nd := List.nodup_nil
  tup := fun p hp => (by cases hp)
  plain := rfl
  led := by
    show _ ∨ (!w.params.followText "set-order") = true
    cases w.params.followText "set-order"
    · exact .inr rfl
    · exact .inl rfl
  room := by show 0 * 5 < 7 * 3; decide
  few := by show 0 < 300; decide
section
variable {A : Around} {E : Value → Shared → Prop} {s : Shared}
/-- all put in, one after the other -/
theorem put_all {I : Addr} {fp wr : List Addr} {G : Array GenState → Array GenState → Prop} {n : Nat} {Pv : Nat → Value → Prop} {St : Nat → Shared → Prop} {R : Result → Shared → Prop}
    (W : WalksS P w A.in1 I fp wr G n Pv St) (S : Addr) (hSf : S ∉ fp) (ks : List (Addr × Ky)) (hn : n = ks.length) (hfew : ks.length < 300) (hval : ∀ i v, Pv i v → ∃ p, ks[i]? = some p ∧ v = .ref p.1)
    (h0 : Heap) (hk : ∀ p ∈ ks, TupK h0 p.2 p.1) (hS0 : h0.get? S = none) (hw0 : ∀ b ∈ wr, h0.get? b = none) (hu : A.in1.units + 8 < cLine) :
    ∀ (k i : Nat) (s : Shared), n - i = k → i ≤ n → St i s → (∀ b o, h0.get? b = some o → s.heap.get? b = some o) → (∃ L en ep tb, SetK w s.heap S L en ep tb ∧ Put ks i L) →
      (∀ s1 L en ep tb, Moved (S :: wr) G s s1 → SetK w s1.heap S L en ep tb → Put ks n L → (∀ b o, h0.get? b = some o → s1.heap.get? b = some o) → R (.ok (.ret .none)) s1) →
      codeAny (model P w) A (.builtin "set.update.loop" ⟨[.ref S, .ref I], []⟩) R s := by
  have hSw : S ∉ wr := fun h => hSf (W.sub _ h)
  have wsub : ∀ b ∈ wr, b ∈ S :: wr := fun b hb => List.mem_cons_of_mem _ hb
  have kept : ∀ {s s1 : Shared}, Moved wr G s s1 → (∀ b o, h0.get? b = some o → s.heap.get? b = some o) → ∀ b o, h0.get? b = some o → s1.heap.get? b = some o := fun hm hkp b o e =>
    hm.heap b o (fun hb => by rw [hw0 b hb] at e; cases e) (hkp b o e)
  intro k
  induction k with
  | zero =>
    intro i s hk1 hi hst hkp ⟨L, en, ep, tb, hS, g⟩ hR
    obtain rfl : i = n := by omega
    refine codeAny_builtin F.entry_set_update_loop ?_
    rw [Around.under_plainId F.plain_set_update_loop _]
    show wpAny _ A.in1 (pyNext (.ref I) >>= _) _ _ s
    refine wpAny_bind (W.done s _ _ hst fun s1 hm => ?_)
    show wpAny _ A.in1 (ret Value.none) _ _ s1
    have hkp1 := kept hm hkp
    exact wpAny_pure (hR s1 L en ep tb (hm.mono wsub) (hS.keep (fun o e => hm.heap S o hSw e) fun p hp => (hk p (List.mem_of_mem_take (g.sub p hp))).grow hkp1) g hkp1)
  | succ k ih =>
    intro i s hk1 hi hst hkp ⟨L, en, ep, tb, hS, g⟩ hR
    have hlt : i < n := by omega
    refine codeAny_builtin F.entry_set_update_loop ?_
    rw [Around.under_plainId F.plain_set_update_loop _]
    show wpAny _ A.in1 (pyNext (.ref I) >>= _) _ _ s
    refine wpAny_bind (W.item i s _ _ hlt hst fun v s1 hP hst1 hm => ?_)
    obtain ⟨p, hp, rfl⟩ := hval i v hP
    have hkp1 := kept hm hkp
    have hS1 : SetK w s1.heap S L en ep tb := hS.keep (fun o e => hm.heap S o hSw e) fun q hq => (hk q (List.mem_of_mem_take (g.sub q hq))).grow hkp1
    have hx : TupK s1.heap p.2 p.1 := (hk p (List.mem_of_getElem? hp)).grow hkp1
    show wpAny _ A.in1 (holding [Value.ref p.1] (setAdd S (.ref p.1)) >>= _) _ _ s1
    refine wpAny_bind (wpAny_holding ?_)
    unfold setAdd
    refine wpAny_holding (wpAny_bind (hx.hashed hu ?_))
    refine put1 (s := { s1 with toks := s1.toks + p.2.draws }) hS1 hx hu (by have := g.len; omega) fun b g1 L1 en1 ep1 tb1 hsb hS2 c1 c2 => ?_
    have g2 : Put ks (i + 1) L1 := by
      rcases Classical.em (p.2 ∈ L.map (·.2)) with c | c
      · rw [c1 c]; exact g.old hp c
      · exact g.new hp (c2 c)
    have hkp2 : ∀ b o, h0.get? b = some o → g1.get? b = some o := fun b o e => (hsb.2 b (fun z => by rw [z, hS0] at e; cases e)).trans (hkp1 b o e)
    refine wpAny_pure ⟨plainId_quiet F.plain_set_update_loop _, ih (i + 1) _ (by omega) hlt (W.frame _ s1 _ _ hst1 (Nat.le_add_right _ _) fun b hb o e => ?_) hkp2 ⟨L1, en1, ep1, tb1, hS2, g2⟩ fun s2 L2 en2 ep2 tb2 hm2 hS3 g3 hkp3 => ?_⟩
    · rw [hsb.2 b (fun h : b = S => hSf (by rw [← h]; exact hb))]; exact e
    · refine hR s2 L2 en2 ep2 tb2 (Moved.trans W.gtrans ((hm.mono wsub).then_heap (Nat.le_add_right _ _) fun b o hb e => ?_) hm2) hS3 g3 hkp3
      rw [hsb.2 b (fun h : b = S => hb (by rw [h]; exact List.mem_cons_self))]; exact e
/-- set(xs) -/
theorem call_set {l : Addr} {items : Array Value} (ks : List (Addr × Ky)) {Q : Value → Shared → Prop} (hh : A.handled = none) (hl : s.heap.IsList l items) (hit : items.toList = ks.map fun p => Value.ref p.1)
    (hk : ∀ p ∈ ks, TupK s.heap p.2 p.1) (hfew : ks.length < 300) (hu : A.units + 11 < cLine)
    (fin : ∀ (g : Heap) (tk : Nat) L en ep tb, SetK w g s.heap.objs.size L en ep tb → Put ks ks.length L → (∀ b o, s.heap.get? b = some o → g.get? b = some o) → Q (.ref s.heap.objs.size) { s with heap := g, toks := tk }) :
    wpAny (model P w) A (call (.type "set") [.ref l]) Q E s := by
  have hisz : items.size = ks.length := by
    have q := congrArg List.length hit
    rwa [Array.length_toList, List.length_map] at q
  obtain ⟨c, tl, hmro⟩ := F.called_set.mro
  have hmade := F.called_set.made
  have hsub := F.called_set.sub
  refine wpAny_call (codeAny_of_tree ?_)
  show wpAny _ _ (callAny (.type "set") _) _ _ _
  refine wpAny_pure ⟨Code.quiet_builtin _ (by decide +kernel), codeAny_builtin F.entry_type_call ?_⟩
  rw [Around.under_plain (weight_type_call_type "set" [.ref l] []) rfl]
  have h1 := F.called_set.notType
  have h2 := F.called_set.canCreate
  have hct := F.typeCall_set_1 (.ref l)
  repeat (any_goals (first | assumption | wp_step))
  refine codeAny_mono (code_set_led1 (.ref l) (E := E) (Q₁ := fun obj s₁ => obj = .ref s.heap.objs.size ∧ s₁ = { s with heap := s.heap.push (newSetObj w) }) ⟨rfl, rfl⟩) fun r s₁ hr => ?_
  cases r with
  | error e => exact hr
  | ok fl =>
    cases fl with
    | ret obj =>
      obtain ⟨rfl, rfl⟩ := hr
      have hS : (s.heap.push (newSetObj w)).get? s.heap.objs.size = some (newSetObj w) := Heap.get?_push_size _ rfl
      have hT : Shared.TypeIs { s with heap := s.heap.push (newSetObj w) } (.ref s.heap.objs.size) "set" := ⟨_, hS, rfl⟩
      have hli := F.called_set.init.lookup
      have hbi := F.called_set.init.bind (.ref s.heap.objs.size)
      repeat (any_goals (first | assumption | wp_step))
      refine codeAny_mono (codeAny_call_builtin (R := wants (fun r s₂ => r = .none ∧ ∃ g tk L en ep tb, s₂ = { s with heap := g, toks := tk } ∧ SetK w g s.heap.objs.size L en ep tb ∧ Put ks ks.length L ∧
          (∀ b o, s.heap.get? b = some o → g.get? b = some o)) E) F.called_set.init.plain F.entry_set_init (check_set_init_1 hT ?_)) fun r₂ s₂ hr₂ => ?_
      · obtain ⟨ol, hol, hcl, nl, hdl⟩ := hl
        obtain ⟨ocls, odict, odata, oslots⟩ := ol
        simp only at hcl hdl
        subst hcl; subst hdl
        have hol1 : (s.heap.push (newSetObj w)).get? l = some { cls := .type "list", dict := odict, data := .seq items nl, slots := oslots } := Heap.get?_push_of_some _ hol
        have hsls := F.sub_list_set
        have hslf := F.sub_list_frozenset
        have hne : (Value.type "list" == Value.type "dict") = false := by decide
        have hl1 : (s.heap.push (newSetObj w)).IsList l items := ⟨_, hol1, rfl, nl, rfl⟩
        unfold Builtin.«set.__init__» noKeywords Builtin.Frozenset.updateFrom
        generalize hPI : pyIter = PI
        wp_walk
        subst hPI
        refine wpAny_pyIter_list hl1 ?_
        refine wpAny_bind (wpAny_runValue ?_)
        have hlS : l < s.heap.objs.size := Heap.lt_size hol
        have hh3 : A.in1.in1.in1.handled = none := by simp [hh]
        have hneI : l ≠ (s.heap.push (newSetObj w)).objs.size := by
          rw [Heap.size_push]; exact Nat.ne_of_lt (Nat.lt_succ_of_lt hlS)
        have hSf : s.heap.objs.size ∉ [(s.heap.push (newSetObj w)).objs.size, l] := by
          rw [Heap.size_push]
          simp only [List.mem_cons, List.mem_singleton, List.not_mem_nil, or_false, not_or]
          exact ⟨Nat.ne_of_lt (Nat.lt_succ_self _), Nat.ne_of_gt hlS⟩
        have hval : ∀ (i : Nat) (v : Value), items[i]? = some v → ∃ p, ks[i]? = some p ∧ v = .ref p.1 := fun i v hv => by
          have q : items.toList[i]? = some v := by rw [Array.getElem?_toList]; exact hv
          rw [hit, List.getElem?_map] at q
          cases hq : ks[i]? with
          | none => rw [hq] at q; cases q
          | some p =>
            rw [hq] at q
            exact ⟨p, rfl, (Option.some.inj q).symm⟩
        have void : ∀ b, s.heap.objs.size ≤ b → s.heap.get? b = none := fun b hb => by
          cases q : s.heap.get? b with
          | none => rfl
          | some o => exact absurd (Nat.lt_of_lt_of_le (Heap.lt_size q) hb) (Nat.lt_irrefl _)
        refine put_all ((Walks.list hh3 _ l hneI items).toS) s.heap.objs.size
          hSf ks hisz hfew hval s.heap hk (void _ (Nat.le_refl _)) (fun b hb => void b (by
            rw [List.mem_singleton.mp hb, Heap.size_push]
            exact Nat.le_succ _)) (show A.units + 3 + 8 < cLine from hu) (items.size - 0) 0 _ (by omega) (Nat.zero_le _)
          ⟨⟨_, Heap.get?_push_size _ rfl, rfl, rfl⟩, (hl1.push _)⟩ (fun b o e => Heap.get?_push_of_some _ (Heap.get?_push_of_some _ e)) ?hS0 ?hR
        case hS0 =>
          have hget : ((s.heap.push (newSetObj w)).push { cls := .type "list_iterator", data := .fields #[.ref l, .int 0 0] }).get? s.heap.objs.size = some (newSetObj w) := Heap.get?_push_of_some _ hS
          exact ⟨[], #[], 0, _, setK_new hget, ⟨fun p h => (by cases h), fun p h => (by simp at h), Nat.le_refl _⟩⟩
        case hR =>
          intro s1 L en ep tb hm hS1 g1 hkp
          obtain ⟨g, g2, d2, tk, os2⟩ := s1
          have eg : g2 = s.gens := hm.gens
          have ed : d2 = s.drawn := hm.drawn
          have eo : os2 = s.os := hm.os
          subst eg; subst ed; subst eo
          show wpAny _ _ _ _ _ _
          refine wpAny_pure ?_
          show wpAny _ _ (ret Value.none) _ _ _
          rw [hisz] at g1
          exact wpAny_pure ⟨rfl, g, tk, L, en, ep, tb, rfl, hS1, g1, hkp⟩
      · cases r₂ with
        | error e => exact hr₂
        | ok fl₂ =>
          cases fl₂ with
          | ret r =>
            obtain ⟨rfl, g, tk, L, en, ep, tb, rfl, hS1, g1, hk1⟩ := hr₂
            repeat (any_goals (first | assumption | wp_step))
            exact fin _ _ _ _ _ _ hS1 g1 hk1
          | _ => exact hr₂.elim
    | _ => exact hr.elim
end
end DS
set_option Elab.async false
set_option linter.all false
set_option maxRecDepth 100000
set_option maxHeartbeats 3200000
/-! DS, part 3: sorted(xs), xs a list of alike data, empty tuples too. -/
namespace DS
open PySem PySem.W PySem.SeqAt PyProof.Rows
section
variable {prog : Program} {w : World} {A : Around} {E : Value → Shared → Prop} {s : Shared}
theorem tup_lt_call {Q : Value → Shared → Prop} {l b : Addr} {items items2 : Array Value} {e r : Nat → Bool} (hl : s.heap.IsTuple l items) (hb : s.heap.IsTuple b items2)
    (he : ∀ j (h1 : j < items.size) (h2 : j < items2.size), EqAt A.in1 s items[j] items2[j] (e j)) (hr : ∀ j (h1 : j < items.size) (h2 : j < items2.size), e j = false → RcLt A.in1 s items[j] items2[j] (r j))
    (fin : Q (.bool (firstLt e r (decide (items.size < items2.size)) (List.range (min items.size items2.size)))) s) : wpAny (model prog w) A (call (.builtin "tuple.__lt__") [.ref l, .ref b]) Q E s := by
  obtain ⟨⟨c1, d1, t1, s1⟩, ho, hc, n, hd⟩ := id hl
  obtain ⟨⟨c2, d2, t2, s2⟩, ho2, hc2, n2, hd2⟩ := id hb
  simp only at hc hd hc2 hd2
  subst hc hd hc2 hd2
  exact call_meets F.slot_tuple_lt ⟨_, ho, rfl⟩ F.entry_tuple_lt (F.args_tuple_lt_2 _ _) (SeqAt.tuple_ltAt l b items items2 n n2 d1 d2 s1 s2 e r) ⟨ho, ho2, he, hr, fin⟩
theorem one_lt {f : Bool} {xs ys : List PyData} {a b : Value} {as bs : List Addr} {Q : Bool → Shared → Prop} (ra : Reads s.heap a (.tuple xs) as) (rb : Reads s.heap b (.tuple ys) bs) (h : alike (.tuple xs) (.tuple ys) = true)
    (hu : A.units + min (PyData.tuple xs).depth (PyData.tuple ys).depth < cLine) (fin : Q (dataLt (.tuple xs) (.tuple ys)) s) : wpAny (model prog w) A (oneLt' f a b) Q E s := by
  cases f with
  | false => exact oneLt_alike (fun e => by cases e) ra rb h (by intro e; cases e) hu fin
  | true =>
    have al : alikeAll xs ys = true := by simpa [alike] using h
    cases ra with
    | @tuple l o vs n _ _ h1 h2 h3 h4 =>
      cases rb with
      | @tuple l2 o2 vs2 n2 _ _ k1 k2 k3 k4 =>
        have n1 : vs.size = xs.length := by simpa using ReadsAll.length _ _ _ h4
        have m1 : vs2.size = ys.length := by simpa using ReadsAll.length _ _ _ k4
        rw [dataLt_tuple, ← firstLt_toks xs ys al, ← n1, ← m1] at fin
        rw [oneLt'_eq]
        simp only [if_true]
        refine wpAny_bind (wpAny_cRoomFor (room_here hu) ?_)
        refine wpAny_bind (wpAny_callSpecialIfBound?_slot (T := "tuple") ⟨_, h1, h2⟩ F.slot_tuple_lt (tup_lt_call (e := pairEq xs ys) (r := fun j => dataLt (xs.getD j .none) (ys.getD j .none)) ⟨_, h1, h2, _, h3⟩ ⟨_, k1, k2, _, k3⟩ (fun j j1 j2 => ?_) (fun j j1 j2 hj => ?_) ?_))
        · have := eqAt_alikeAll xs ys A.in1 s vs.toList vs2.toList _ _ h4 k4 al (room_in hu) j (by simpa using j1) (by simpa using j2)
          simpa using this
        · have := rcLt_alikeAll xs ys A.in1 s vs.toList vs2.toList _ _ h4 k4 al (room_in hu) j (by simpa using j1) (by simpa using j2) hj
          simpa using this
        · exact wpAny_truthy_bool fin
/-- v is a tuple, f its first item -/
def FstOf (h : Heap) (v : Value) (f : Option Value) : Prop := ∃ a o xs n, v = .ref a ∧ h.get? a = some o ∧ o.cls = .type "tuple" ∧ o.data = .seq xs n ∧ f = xs[0]?
theorem firsts_wp {M : Model} : ∀ (vs : List Value) (fs : List (Option Value)), EachIs (FstOf s.heap) vs fs → ∀ {Q : List (Option Value) → Shared → Prop}, Q fs s → wpAny M A (vs.mapM firstOfTuple') Q E s
  | [], _, .nil, Q, fin => by rw [List.mapM_nil]; exact wpAny_pure fin
  | v :: vs, _, .cons (b := f) (bs := fs) ⟨a, o, xs, n, e1, ho, hc, hd, e2⟩ t, Q, fin => by
    subst e1
    rw [List.mapM_cons]
    refine wpAny_bind ?_
    rw [kas_first_eq]
    refine wpAny_bind (Looks.here (show Looks M s.heap (typeOf (.ref a)) o.cls from (Looks.ld ho).andThen .now) ?_)
    rw [hc, if_neg (by first | decide | simp)]
    refine wpAny_bind (listItems_at ho hd (wpAny_pure ?_))
    rw [← e2]
    exact wpAny_bind (firsts_wp vs fs t (Q := fun bs s1 => wpAny M A (pure (f :: bs)) Q E s1) (wpAny_pure fin))
theorem fst_ex {h : Heap} : ∀ {vs : List Value} {ds : List PyData}, EachIs (fun v d => ∃ as, Reads h v d as) vs ds → (∀ d ∈ ds, ∃ xs, d = .tuple xs) → ∃ fs, EachIs (FstOf h) vs fs ∧ (fs.all (·.isSome) = true → ∀ d ∈ ds, ∃ x r, d = .tuple (x :: r))
  | _, _, .nil, _ => ⟨[], .nil, fun _ d hd => by cases hd⟩
  | _, _, .cons (b := d) ⟨as, r⟩ t, ht => by
    obtain ⟨fs, h1, h2⟩ := fst_ex t fun d hd => ht d (List.mem_cons_of_mem _ hd)
    obtain ⟨xs, rfl⟩ := ht d List.mem_cons_self
    cases r with
    | @tuple a o ys n _ _ ho hc hd hr =>
      refine ⟨ys[0]? :: fs, .cons ⟨a, o, ys, n, rfl, ho, hc, hd, rfl⟩ h1, fun hall d hm => ?_⟩
      rw [List.all_cons, Bool.and_eq_true] at hall
      rcases List.mem_cons.mp hm with rfl | hm
      · cases xs with
        | cons x r => exact ⟨x, r, rfl⟩
        | nil =>
          cases q : ys.toList with
          | nil =>
            have : ys[0]? = none := by rw [← Array.getElem?_toList, q]; rfl
            rw [this] at hall
            cases hall.1
          | cons _ _ => rw [q] at hr; cases hr
      · exact h2 hall.2 d hm
/-- tuples, empty ones too -/
theorem sortsTups {vs : List Value} {ds : List PyData} (e : EachIs (fun v d => ∃ as, Reads s.heap v d as) vs ds) (hal : AllAlike ds) (ht : ∀ d ∈ ds, ∃ xs, d = .tuple xs) (hu : ∀ d ∈ ds, A.units + d.depth < cLine) : SortsAt prog w A s (dataKind s.heap ds) vs := by
  obtain ⟨fs, hf, hall⟩ := fst_ex e ht
  by_cases ha : fs.all (·.isSome) = true
  · exact SortsAt.data e hal (.inl (hall ha)) hu
  have keys : ∀ v, v ∈ vs → ∃ a, (dataKind s.heap ds).keyOf v = some a := fun v hv => by
    obtain ⟨d, hd, as, r⟩ := e.left v hv
    exact ⟨_, dataKind_some hal hd r⟩
  have lt : ∀ f, ∀ (E : Value → Shared → Prop) (x y : Value) (a b : (dataKind s.heap ds).α) {Q : Bool → Shared → Prop}, (dataKind s.heap ds).keyOf x = some a → (dataKind s.heap ds).keyOf y = some b → Q ((dataKind s.heap ds).blt a b) s → wpAny (model prog w) A (oneLt' f x y) Q E s := fun f E x y a b Q ha hb hq => by
    obtain ⟨d, as, hd, ra, rfl⟩ := dataKind_inv ha
    obtain ⟨d2, bs, hd2, rb, rfl⟩ := dataKind_inv hb
    obtain ⟨xs, rfl⟩ := ht d hd
    obtain ⟨ys, rfl⟩ := ht d2 hd2
    exact one_lt ra rb (hal _ hd _ hd2) (Nat.lt_of_le_of_lt (Nat.add_le_add_left (Nat.min_le_left _ _) _) (hu _ hd)) hq
  have looks : ∀ (M : Model) v, v ∈ vs → Looks M s.heap (typeOf v) (.type "tuple") := fun M v hv => by
    obtain ⟨d, hd, as, r⟩ := e.left v hv
    obtain ⟨xs, rfl⟩ := ht d hd
    exact looks_reads r
  by_cases h0 : (fs[0]?.bind id).isSome = true
  · refine ⟨keys, general', fun E x y a b Q ha hb hq => lt false E x y a b ha hb hq, fun h2 E Q hq => ?_⟩
    rw [keyKind'_eq, List.mapM_toArray, map_eq_pure_bind]
    refine wpAny_bind (wpAny_bind (firsts_wp vs fs hf (wpAny_pure ?_)))
    rw [if_neg (by simpa using ha), if_pos (by simpa using h0)]
    exact wpAny_pure hq
  · refine ⟨keys, oneType', fun E x y a b Q ha hb hq => lt true E x y a b ha hb hq, fun h2 E Q hq => ?_⟩
    rw [keyKind'_eq, List.mapM_toArray, map_eq_pure_bind]
    refine wpAny_bind (wpAny_bind (firsts_wp vs fs hf (wpAny_pure ?_)))
    rw [if_neg (by simpa using ha), if_neg (by simpa using h0)]
    rw [oneTypeOnly'_eq, List.mapM_toArray, map_eq_pure_bind]
    refine wpAny_bind (wpAny_bind (wpAny_bind (kas_mapM (r := Value.type "tuple") _ (fun v hv Q' hq => (looks _ v hv).here hq) (wpAny_pure ?_))))
    obtain ⟨v₁, rest, rfl⟩ : ∃ v₁ rest, vs = v₁ :: rest := by
      match vs, h2 with
      | v₁ :: rest, _ => exact ⟨v₁, rest, rfl⟩
    have hall2 : ((List.map (fun _ => Value.type "tuple") (v₁ :: rest)).toArray.all fun x => x == Value.type "tuple") = true := by
      simp only [List.all_toArray, List.all_map, List.all_eq_true]
      intro _ _
      exact beq_self_eq_true _
    have h00 : (List.map (fun _ => Value.type "tuple") (v₁ :: rest)).toArray[0]? = some (Value.type "tuple") := by simp
    rw [h00]
    dsimp only
    rw [if_pos hall2]
    refine wpAny_pure ?_
    simp only [Option.isSome_some, if_true]
    exact wpAny_pure hq
/-- what can be sorted: tuples, or none is one or None -/
def Srt (ds : List PyData) : Prop := (∀ d ∈ ds, ∃ xs, d = .tuple xs) ∨ ∀ d ∈ ds, d ≠ .none ∧ ∀ xs, d ≠ .tuple xs
theorem sortsAny {vs : List Value} {ds : List PyData} (e : EachIs (fun v d => ∃ as, Reads s.heap v d as) vs ds) (hal : AllAlike ds) (hk : Srt ds) (hu : ∀ d ∈ ds, A.units + d.depth < cLine) : SortsAt prog w A s (dataKind s.heap ds) vs :=
  hk.elim (fun h => sortsTups e hal h hu) fun h => SortsAt.data e hal (.inr h) hu
variable {β : Type} {vs : List Value} {bs : List β} {enc : β → PyData} {R : Value → β → Prop}
/-- sorted(xs) -/
theorem sorted_all {l : Addr} {Q : Value → Shared → Prop} (hl : s.heap.IsList l vs.toArray) (e : EachIs R vs bs) (er : EachIs (fun v b => ∃ as, Reads s.heap v (enc b) as) vs bs) (hal : AllAlike (bs.map enc)) (hk : Srt (bs.map enc)) (hL : bs.length ≤ sizeLine)
    (hu : ∀ b, b ∈ bs → A.units + 2 + (enc b).depth < cLine) (fin : ∀ out, out.length = bs.length → EachIs R out (bs.mergeSort (dataLe false enc)) → Q (.ref (s.heap.objs.size + 1)) { s with heap := sortedAll s.heap vs (List.toArray out) }) :
    wpAny (model prog w) A (call (.builtin "sorted") [.ref l]) Q E s := by
  have er2 : EachIs (fun v b => ∃ as, Reads (sortingHeap (copyHeap s.heap vs) (s.heap.objs.size + 1) vs) v (enc b) as) vs bs := er.mono fun _ _ ⟨as, r⟩ => ⟨as, PyProof.Rows.Reads.keeps (fun _ _ => sorting_copy_old) r⟩
  exact sorted_vals hl (sortsAny (s := { s with heap := sortingHeap (copyHeap s.heap vs) (s.heap.objs.size + 1) vs }) (each_map (R := fun v d => ∃ as, Reads (sortingHeap (copyHeap s.heap vs) (s.heap.objs.size + 1) vs) v d as) enc er2) hal hk (bound_map hu)) (by rw [e.length]; exact hL)
    (fin _ (by rw [sortVals_length false rfl]; exact e.length) (sortVals_data false e er2 hal))
end
end DS
set_option Elab.async false
set_option linter.all false
set_option maxRecDepth 100000
set_option maxHeartbeats 3200000
/-! DS, part 4: set(xs), sorted(set), sorted(xs) as rules. -/
namespace DS
open PySem PySem.Spec PyProof.Rows L2 PySem.W PySem.SeqAt
mutual
/-- a value that is the key k: numbers, None and tuples of such -/
def NV (K : PySem.W.Frag) (H : Hp) : Ky → V → Prop
  | .num i, v => v = .int i
  | .none, v => v = .non
  | .text _, _ => False
  | .tup ks, v => ∃ a xs, v = .ref a ∧ SqT K H a xs ∧ NVs K H ks xs
def NVs (K : PySem.W.Frag) (H : Hp) : List Ky → List V → Prop
  | [], xs => xs = []
  | k :: ks, xs => ∃ x r, xs = x :: r ∧ NV K H k x ∧ NVs K H ks r
end
section
variable {X : Cx} {pins : List (Addr × Obj)} {σ : L2.St} {H : Hp} {s : Shared}
mutual
theorem NV.key (I : Inv X pins σ H s) : ∀ (k : Ky) (v : V) (u : Value), NV X.K H k v → RelV v u → NestedIs s.heap k u ∧ ∃ as, Reads s.heap u k.data as
  | .num i, v, u, h, r => by
    have h : v = .int i := h
    subst h
    obtain ⟨t, rfl⟩ := r
    exact ⟨.int i t, _, .int i t⟩
  | .none, v, u, h, r => by
    have h : v = .non := h
    subst h
    cases r
    exact ⟨.none, _, .none⟩
  | .text _, _, _, h, _ => h.elim
  | .tup ks, _, u, ⟨a, xs, e, t, q⟩, r => by
    subst e
    cases r
    obtain ⟨its, rv, ⟨o, ho, hc, n, hd⟩, _⟩ := I.tuple t
    obtain ⟨h1, as, h2⟩ := NVs.keys I ks xs its q rv
    exact ⟨.tup ho hc hd (by simpa using h1), _, .tuple ho hc hd (by simpa using h2)⟩
theorem NVs.keys (I : Inv X pins σ H s) : ∀ (ks : List Ky) (xs : List V) (us : List Value), NVs X.K H ks xs → Vals xs us → NestedAll s.heap ks us ∧ ∃ as, ReadsAll s.heap us (NestedKey.datas ks) as
  | [], xs, us, h, r => by
    have h : xs = [] := h
    subst h
    cases r
    exact ⟨.nil, _, .nil⟩
  | k :: ks, _, us, ⟨x, rr, e, h, t⟩, r => by
    subst e
    cases r with
    | cons r1 r2 =>
      obtain ⟨a1, as, a2⟩ := NV.key I k x _ h r1
      obtain ⟨b1, bs, b2⟩ := NVs.keys I ks rr _ t r2
      exact ⟨.cons a1 b1, _, .cons a2 b2⟩
end
theorem NV.tupK (I : Inv X pins σ H s) {k : Ky} {a : Addr} (h : NV X.K H k (.ref a)) (hd : k.depth ≤ 7) (hb : bare k = true) : TupK s.heap k a := ⟨(NV.key I k _ _ h rfl).1, hd, hb⟩
end
/-- the set, without its tuples -/
def SetK0 (w : World) (h : Heap) (a : Addr) (L : List (Addr × Ky)) : Prop := ∃ (en : Array (Int × Value)) (ep : Nat) (tb : SetTable), (∃ o, h.get? a = some o ∧ o.ExactSet ∧ o.data = .set en ep tb) ∧ en.toList = ents w L ∧ TabB tb (L.map fun p => p.2.hash w) ∧ (L.map (·.2)).Nodup ∧ tb.plain = true ∧
    (w.params.followText "set-order" = true ∨ tb.led = true) ∧ L.length * 5 < tb.mask * 3 ∧ L.length < 300
def SetO (w : World) (a : Addr) (L : List (Addr × Ky)) : HO := .ext fun h => SetK0 w h a L
theorem setO_new {P : Program} {w : World} {H : Hp} {h : Heap} {a : Addr} {L : List (Addr × Ky)} (R : SetK0 w h a L) : ObjOk P w H h a (SetO w a L) := by
  have ⟨en, ep, tb, ⟨o, ho, r⟩, q⟩ := R
  refine ⟨R, ⟨o, ho⟩, fun h1 h2 p k => ?_⟩
  have ⟨en', ep', tb', ⟨o', ho', r'⟩, q'⟩ := show SetK0 w h1 a L from p
  exact ⟨en', ep', tb', ⟨o', k o' ho', r'⟩, q'⟩
theorem vals_refsK : ∀ (ks : List (Addr × Ky)), Vals (ks.map fun p => V.ref p.1) (ks.map fun p => Value.ref p.1)
  | [] => .nil
  | p :: ks => .cons rfl (vals_refsK ks)
theorem refs_valsK : ∀ {ks : List (Addr × Ky)} {us : List Value}, Vals (ks.map fun p => V.ref p.1) us → us = ks.map fun p => Value.ref p.1
  | [], _, .nil => rfl
  | p :: ks, _, .cons r t => by
    cases r
    rw [refs_valsK t]
    rfl
theorem each_refs (h : Heap) : ∀ (L : List (Addr × Ky)), EachIs (fun v (p : Addr × Ky) => v = Value.ref p.1) (L.map fun q => Value.ref q.1) L
  | [] => .nil
  | p :: L => .cons rfl (each_refs h L)
theorem each_back : ∀ {vs : List Value} {L : List (Addr × Ky)}, EachIs (fun v (p : Addr × Ky) => v = Value.ref p.1) vs L → vs = L.map fun q => Value.ref q.1
  | _, _, .nil => rfl
  | _, _, .cons e t => by rw [List.map_cons, e, each_back t]
theorem key_tup {h : Heap} {k : Ky} {a : Addr} (x : NestedIs h k (.ref a)) : ∃ ks, k = .tup ks := by cases x; exact ⟨_, rfl⟩
section
variable {P : Program} {w : World} {A : Around} {E : Value → Shared → Prop} {s : Shared}
/-- sorted(s), s a set -/
theorem sorted_set {a : Addr} {L : List (Addr × Ky)} {en : Array (Int × Value)} {ep : Nat} {tb : SetTable} {Q : Value → Shared → Prop} (R : SetK w s.heap a L en ep tb) (hh : A.handled = none) (hal : AllAlike (L.map fun p => p.2.data))
    (hre : ∀ p ∈ L, ∃ as, Reads s.heap (.ref p.1) p.2.data as) (hu : ∀ p ∈ L, A.units + 2 + p.2.data.depth < cLine)
    (fin : ∀ s1 p (c : Nat) (M : List (Addr × Ky)), (∀ b o, s.heap.get? b = some o → s1.heap.get? b = some o) → s1.gens = s.gens → s1.os = s.os → s.heap.objs.size ≤ p →
      s1.heap.get? p = some (seqObj "list" (M.map fun q => Value.ref q.1).toArray c) → M.Perm L → M.Pairwise (fun q r => dataLe false (fun p : Addr × Ky => p.2.data) q r = true) → Q (.ref p) s1) :
    wpAny (model P w) A (call (.builtin "sorted") [.ref a]) Q E s := by
  obtain ⟨o, ho, hex, hd⟩ := R.ob
  have hsz := ents_len R.rows
  have hfew := R.few
  refine Calls.call_function_entry kind_sorted plain_sorted entry_sorted (args_sorted1 _) ?_
  unfold Builtin.«sorted»
  refine wpAny_bind (m := checkCount "sorted" 1 1 _) (wpAny_pure ?_)
  refine wpAny_bind (collect_set (A := A.in1) hh ⟨o, ho, hex.1, hd⟩ R.fits (by unfold scanBound; omega) R.tab.ris R.led fun s1 vs k1 hz g1 o1 pm => ?_)
  have hes : en.toList.map (·.2) = L.map fun q => Value.ref q.1 := by
    rw [R.rows]
    unfold ents
    rw [List.map_map]
    rfl
  rw [hes] at pm
  have pick : ∀ vs : List Value, (∀ v ∈ vs, ∃ q ∈ L, v = Value.ref q.1) → ∃ M : List (Addr × Ky), vs = M.map (fun q => Value.ref q.1) ∧ ∀ q ∈ M, q ∈ L := by
    intro vs
    induction vs with
    | nil => intro _; exact ⟨[], rfl, fun q hq => (by cases hq)⟩
    | cons v vs ih =>
      intro hv
      obtain ⟨q, hq, e⟩ := hv v List.mem_cons_self
      obtain ⟨M, e1, hs⟩ := ih fun u hu => hv u (List.mem_cons_of_mem _ hu)
      refine ⟨q :: M, by rw [List.map_cons, e, e1], fun r hr => ?_⟩
      rcases List.mem_cons.mp hr with z | z
      · rw [z]; exact hq
      · exact hs r z
  have one : ∀ q ∈ L, ∀ r ∈ L, q.1 = r.1 → q = r := fun q hq r hr e => by
    have a1 := R.tup q hq
    rw [e] at a1
    exact Prod.ext e (a1.one (R.tup r hr))
  obtain ⟨M, eM, hM⟩ := pick vs fun v hv => by
    obtain ⟨q, hq, e⟩ := List.mem_map.mp (pm.mem_iff.mp hv)
    exact ⟨q, hq, e.symm⟩
  have pML : M.Perm L := by
    rw [eM] at pm
    have nL : L.Nodup := L2.nodup_of_map R.nd
    have nr : (L.map fun q => Value.ref q.1).Nodup := by
      refine List.pairwise_map.mpr (List.Pairwise.imp_of_mem (fun {q r} hq hr hne e => ?_) nL)
      injection e with e
      exact hne (one q hq r hr e)
    have nM : M.Nodup := L2.nodup_of_map (pm.nodup_iff.mpr nr)
    refine (List.perm_ext_iff_of_nodup nM nL).mpr fun q => ⟨hM q, fun hq => ?_⟩
    have hm : Value.ref q.1 ∈ M.map (fun q => Value.ref q.1) := pm.mem_iff.mpr (List.mem_map.mpr ⟨q, hq, rfl⟩)
    obtain ⟨r, hr, e⟩ := List.mem_map.mp hm
    injection e with e
    rw [← one r (hM r hr) q hq e]
    exact hr
  have hvl : vs.length < 300 := by rw [pm.length_eq, List.length_map]; exact hfew
  have hvz : vs.length ≤ sizeLine := by rw [sizeLine_eq]; omega
  refine wpAny_bind (wpAny_newList ?_ hvz)
  have hoL : (s1.heap.push (seqObj "list" vs.toArray 0)).get? s1.heap.objs.size = some (seqObj "list" vs.toArray 0) := Heap.get?_push_size _ rfl
  have old : ∀ b u, s.heap.get? b = some u → (sortingHeap (s1.heap.push (seqObj "list" vs.toArray 0)) s1.heap.objs.size vs).get? b = some u := fun b u e =>
    sortingHeap_old (Nat.ne_of_lt (Heap.lt_size (k1 b u e))) (Heap.get?_push_of_some _ (k1 b u e))
  have halM : AllAlike (M.map fun p => p.2.data) := fun d hd e he => by
    obtain ⟨p, hp, rfl⟩ := List.mem_map.mp hd
    obtain ⟨q, hq, rfl⟩ := List.mem_map.mp he
    exact hal _ (List.mem_map.mpr ⟨p, hM p hp, rfl⟩) _ (List.mem_map.mpr ⟨q, hM q hq, rfl⟩)
  have er : EachIs (fun v (p : Addr × Ky) => ∃ as, Reads (sortingHeap (s1.heap.push (seqObj "list" vs.toArray 0)) s1.heap.objs.size vs) v p.2.data as) vs M := by
    have key : ∀ N : List (Addr × Ky), (∀ p ∈ N, p ∈ L) → EachIs (fun v (p : Addr × Ky) => ∃ as, Reads (sortingHeap (s1.heap.push (seqObj "list" vs.toArray 0)) s1.heap.objs.size vs) v p.2.data as) (N.map fun q => Value.ref q.1) N := by
      intro N
      induction N with
      | nil => intro _; exact .nil
      | cons p N ih =>
        intro h
        obtain ⟨as, r⟩ := hre p (h p List.mem_cons_self)
        exact .cons ⟨as, PyProof.Rows.Reads.keeps old r⟩ (ih fun q hq => h q (List.mem_cons_of_mem _ hq))
    have := key M hM
    rwa [← eM] at this
  have S : SortsAt P w A.in1.in1 { s1 with heap := sortingHeap (s1.heap.push (seqObj "list" vs.toArray 0)) s1.heap.objs.size vs } (dataKind (sortingHeap (s1.heap.push (seqObj "list" vs.toArray 0)) s1.heap.objs.size vs) (M.map fun p => p.2.data)) vs :=
    sortsAny (s := { s1 with heap := sortingHeap (s1.heap.push (seqObj "list" vs.toArray 0)) s1.heap.objs.size vs }) (each_map (R := fun v d => ∃ as, Reads (sortingHeap (s1.heap.push (seqObj "list" vs.toArray 0)) s1.heap.objs.size vs) v d as) (fun p : Addr × Ky => p.2.data) er) halM
      (.inl fun d hd => by
        obtain ⟨p, hp, rfl⟩ := List.mem_map.mp hd
        obtain ⟨ks, e⟩ := key_tup (R.tup p (hM p hp)).at_
        rw [e]
        exact ⟨_, rfl⟩) (fun d hd => by
        obtain ⟨p, hp, rfl⟩ := List.mem_map.mp hd
        exact hu p (hM p hp))
  have out := sortVals_data false (eM ▸ each_refs s1.heap M) er halM
  have eo := each_back out
  refine wpAny_bind (wpAny_holding (wpAny_call_entry slot_list_sort ⟨_, hoL, rfl⟩ entry_list_sort (list_sort_vals (s := { s1 with heap := s1.heap.push (seqObj "list" vs.toArray 0) }) hoL S hvz ⟨_, rfl, ?_⟩) (args_list_sort _)))
  rw [eo]
  obtain ⟨c, hc⟩ := sortedHeap_at (vs := vs) (out := ((M.mergeSort (dataLe false fun p => p.2.data)).map fun q => Value.ref q.1).toArray) hoL
  refine wpAny_pure ⟨_, rfl, fin _ s1.heap.objs.size c (M.mergeSort (dataLe false fun p => p.2.data)) (fun b u e => ?_) g1 o1 hz hc ((List.mergeSort_perm _ _).trans pML) (sort_pairwise (sortLe_total _ _ _) M)⟩
  have q := k1 b u e
  have hlt := Heap.lt_size q
  show (sortedHeap (s1.heap.push (seqObj "list" vs.toArray 0)) s1.heap.objs.size vs _).get? b = some u
  rw [sortedHeap_old (Nat.ne_of_lt hlt) (by rw [size_push']; exact Nat.lt_succ_of_lt hlt)]
  exact Heap.get?_push_of_some _ q
end
/-! ### as rules -/
section
variable {X : Cx}
def rSetK (K : PySem.W.Frag) (w : World) : List V → Hp → VK → Prop := fun xs H Q => ∃ (l : Addr) (ks : List (Addr × Ky)), xs = [V.ref l] ∧ SqL K H l (ks.map fun p => V.ref p.1) ∧ (∀ p ∈ ks, NV K H p.2 (.ref p.1) ∧ p.2.depth ≤ 7 ∧ bare p.2 = true) ∧ ks.length < 300 ∧
  ∀ a L, H a = none → (∀ p ∈ L, p ∈ ks) → (∀ p ∈ ks, p.2 ∈ L.map (·.2)) → Q (.ref a) (upd H a (SetO w a L))
theorem cr_setK (hc : X.calm = true) (hu : X.A.units + 64 < cLine) : CallR X (.type "set") (rSetK X.K X.w) := by
  intro pins s σ H xs us Q I r h
  obtain ⟨l, ks, rfl, hl, hk, hf, q⟩ := h
  rw [Vals.ref1 r]
  obtain ⟨its, rv, pl, hz⟩ := I.list hl
  have hn : H s.heap.objs.size = none := I.hok.fresh (Nat.le_refl _)
  refine call_set (P := X.prog) (w := X.w) ks (I.ok.hd hc) pl.isList (by simpa using refs_valsK rv) (fun p hp => NV.tupK I (hk p hp).1 (hk p hp).2.1 (hk p hp).2.2) hf (by omega) fun g tk L en ep tb R g2 k => ?_
  exact ⟨.ref s.heap.objs.size, upd H s.heap.objs.size (SetO X.w s.heap.objs.size L), I.laid (t' := tk) k (Nat.le_refl _) (setO_new ⟨en, ep, tb, R.ob, R.rows, R.tab, R.nd, R.plain, R.led, R.room, R.few⟩), rfl,
    q _ L hn (fun p hp => List.mem_of_mem_take (g2.sub p hp)) fun p hp => g2.all p (by rw [List.take_length]; exact hp)⟩
def rSortSet (K : PySem.W.Frag) (w : World) : List V → Hp → VK → Prop := fun vs H Q => ∃ (a : Addr) (L : List (Addr × Ky)), vs = [V.ref a] ∧ H a = some (SetO w a L) ∧ (∀ p ∈ L, NV K H p.2 (.ref p.1) ∧ p.2.depth ≤ 7 ∧ bare p.2 = true ∧ p.2.data.depth ≤ 8) ∧ AllAlike (L.map fun p => p.2.data) ∧
  ∀ (M : List (Addr × Ky)) (p : Addr), M.Perm L → (M.map (·.2)).Nodup → M.Pairwise (fun q r => dataLe false (fun p : Addr × Ky => p.2.data) q r = true) → H p = none → Q (.ref p) (upd H p (.lst (M.map fun q => V.ref q.1)))
theorem cr_sortSet (hc : X.calm = true) (hu : X.A.units + 64 < cLine) : CallR X (.builtin "sorted") (rSortSet X.K X.w) := by
  intro pins s σ H vs us Q I r h
  obtain ⟨a, L, rfl, ha, hk, hal, q⟩ := h
  have R0 : SetK0 X.w s.heap a L := (I.hok a _ ha).1
  obtain ⟨en, ep, tb, c1, c2, c3, c4, c5, c6, c7, c8⟩ := R0
  have R : SetK X.w s.heap a L en ep tb := ⟨c1, c2, c3, c4, fun p hp => NV.tupK I (hk p hp).1 (hk p hp).2.1 (hk p hp).2.2.1, c5, c6, c7, c8⟩
  rw [Vals.ref1 r]
  refine sorted_set R (I.ok.hd hc) hal (fun p hp => (NV.key I _ _ _ (hk p hp).1 rfl).2) (fun p hp => by have := (hk p hp).2.2.2; omega) fun s1 p c M k g o hp hg pm pw => ?_
  have hlen : (M.map fun q => V.ref q.1).length ≤ sizeLine := by rw [List.length_map, pm.length_eq, sizeLine_eq]; omega
  have hn : H p = none := I.hok.fresh hp
  have J : Inv X pins σ (upd H p (.lst (M.map fun q => V.ref q.1))) { s with heap := s1.heap, gens := s1.gens, drawn := s1.drawn, toks := s1.toks } :=
    I.call (ch := []) (Un.laid k hp hn) (I.hok.laid k hp ⟨hlen, _, c, vals_refsK M, by simpa using hg⟩) (by rw [g]; exact I.bare) (fun _ z => nomatch z)
  have e : s1 = { s with heap := s1.heap, gens := s1.gens, drawn := s1.drawn, toks := s1.toks } := by
    cases s1
    cases s
    cases o
    rfl
  rw [e]
  exact ⟨.ref p, _, J, rfl, q M p pm ((pm.map (·.2)).nodup_iff.mpr c4) pw hn⟩
/-- sorted(xs), xs a list of alike keys -/
def rSortL (K : PySem.W.Frag) : List V → Hp → VK → Prop := fun vs H Q => ∃ (a : Addr) (ks : List (V × Ky)), vs = [V.ref a] ∧ SqL K H a (ks.map (·.1)) ∧ (∀ p ∈ ks, NV K H p.2 p.1 ∧ p.2.data.depth ≤ 8) ∧ AllAlike (ks.map fun p => p.2.data) ∧ Srt (ks.map fun p => p.2.data) ∧
  ∀ p, H p = none → Q (.ref p) (upd H p (.lst ((ks.mergeSort (dataLe false fun p => p.2.data)).map (·.1))))
theorem each_vals : ∀ {ks : List (V × Ky)} {us : List Value}, Vals (ks.map (·.1)) us → EachIs (fun u (p : V × Ky) => RelV p.1 u) us ks
  | [], _, .nil => .nil
  | p :: ks, _, .cons r t => .cons r (each_vals t)
theorem vals_each : ∀ {ks : List (V × Ky)} {us : List Value}, EachIs (fun u (p : V × Ky) => RelV p.1 u) us ks → Vals (ks.map (·.1)) us
  | _, _, .nil => .nil
  | _, _, .cons r t => .cons r (vals_each t)
theorem cr_sortL (hu : X.A.units + 64 < cLine) : CallR X (.builtin "sorted") (rSortL X.K) := by
  intro pins s σ H vs us Q I r h
  obtain ⟨a, ks, rfl, hs, hk, hal, hst, q⟩ := h
  obtain ⟨its, rv, hl, hz⟩ := I.list hs
  rw [Vals.ref1 r]
  have e := each_vals rv
  have er : EachIs (fun v (p : V × Ky) => ∃ as, Reads s.heap v p.2.data as) its ks := by
    have key : ∀ {ks : List (V × Ky)} {us : List Value}, EachIs (fun u (p : V × Ky) => RelV p.1 u) us ks → (∀ p ∈ ks, NV X.K H p.2 p.1 ∧ p.2.data.depth ≤ 8) → EachIs (fun v (p : V × Ky) => ∃ as, Reads s.heap v p.2.data as) us ks := by
      intro ks us e
      induction e with
      | nil => intro _; exact .nil
      | cons r t ih => intro h; exact .cons (NV.key I _ _ _ (h _ List.mem_cons_self).1 r).2 (ih fun p hp => h p (List.mem_cons_of_mem _ hp))
    exact key e hk
  refine sorted_all hl.isList e er hal hst (by rw [List.length_map] at hz; exact hz) (fun p hp => by have := (hk p hp).2; omega) fun out h1 h2 => ?_
  have kp : ∀ b o, s.heap.get? b = some o → (sortedAll s.heap its (List.toArray out)).get? b = some o := fun b o e => sortedAll_old e
  obtain ⟨c, hc⟩ := sortedAll_at s.heap its (List.toArray out)
  have hlen : ((ks.mergeSort (dataLe false fun p => p.2.data)).map (·.1)).length ≤ sizeLine := by
    rw [List.length_map, List.length_mergeSort]
    rw [List.length_map] at hz
    exact hz
  exact ⟨.ref (s.heap.objs.size + 1), upd H (s.heap.objs.size + 1) (.lst ((ks.mergeSort (dataLe false fun p => p.2.data)).map (·.1))), I.laid (t' := s.toks) kp (Nat.le_succ _) ⟨hlen, out, c, vals_each h2, by simpa using hc⟩, rfl, q _ (I.hok.fresh (Nat.le_succ _))⟩
end
end DS
set_option Elab.async false
set_option linter.all false
set_option maxRecDepth 100000
set_option maxHeartbeats 1000000
/-! DM2: sorted(xs), sorted(set(xs)) of numbers, tuples of such. -/
namespace DL
open PySem PySem.Spec PyProof.Rows L2 PySem.W

/-! ### keys -/
mutual
def keyD : D → Option DS.Ky
  | .non => some .none
  | .int i => some (.num i)
  | .tup ds => (keyDs ds).map .tup
  | _ => none
def keyDs : List D → Option (List DS.Ky)
  | [] => some []
  | d :: ds => (keyD d).bind fun k => (keyDs ds).map fun ks => k :: ks
end
mutual
def datD : D → PyData
  | .non => .none
  | .int i => .int i
  | .tup ds => .tuple (datDs ds)
  | _ => .none
def datDs : List D → List PyData
  | [] => []
  | d :: ds => datD d :: datDs ds
end
mutual
theorem keyD_dat : ∀ (d : D) (k : DS.Ky), keyD d = some k → k.data = datD d ∧ DS.bare k = true
  | .non, _, h => by cases h; exact ⟨rfl, rfl⟩
  | .int i, _, h => by cases h; exact ⟨rfl, rfl⟩
  | .tup ds, k, h => by
    have h : Option.map NestedKey.tup (keyDs ds) = some k := h
    cases q : keyDs ds with
    | none => rw [q] at h; cases h
    | some ks =>
      rw [q] at h
      cases h
      obtain ⟨h1, h2⟩ := keyDs_dat ds ks q
      exact ⟨by show PyData.tuple (NestedKey.datas ks) = _; rw [h1]; rfl, h2⟩
  | .bl _, _, h => by cases h
  | .str _, _, h => by cases h
  | .lst _, _, h => by cases h
  | .lck _, _, h => by cases h
  | .fr _, _, h => by cases h
  | .new _, _, h => by cases h
  | .ref _, _, h => by cases h
  | .glob _, _, h => by cases h
  | .ty _, _, h => by cases h
  | .obj _ _, _, h => by cases h
  | .bor _ _, _, h => by cases h
  | .exh _ _ _ _, _, h => by cases h
theorem keyDs_dat : ∀ (ds : List D) (ks : List DS.Ky), keyDs ds = some ks → NestedKey.datas ks = datDs ds ∧ DS.bareL ks = true
  | [], _, h => by cases h; exact ⟨rfl, rfl⟩
  | d :: ds, _, h => by
    unfold keyDs at h
    cases q : keyD d with
    | none => rw [q] at h; cases h
    | some k =>
      rw [q] at h
      cases q2 : keyDs ds with
      | none => rw [q2] at h; cases h
      | some ks =>
        rw [q2] at h
        cases h
        obtain ⟨a1, a2⟩ := keyD_dat d k q
        obtain ⟨b1, b2⟩ := keyDs_dat ds ks q2
        refine ⟨by show k.data :: NestedKey.datas ks = _; rw [a1, b1]; rfl, ?_⟩
        show (DS.bare k && DS.bareL ks) = true
        rw [a2, b2]; rfl
end
mutual
theorem depth_dat : ∀ (d : D) (k : DS.Ky), keyD d = some k → k.depth = (datD d).depth
  | .non, _, h => by cases h; rfl
  | .int i, _, h => by cases h; rfl
  | .tup ds, k, h => by
    have h : Option.map NestedKey.tup (keyDs ds) = some k := h
    cases q : keyDs ds with
    | none => rw [q] at h; cases h
    | some ks =>
      rw [q] at h
      cases h
      have := depths_dat ds ks q
      show NestedKey.depthAll ks + 1 = (PyData.tuple (datDs ds)).depth
      rw [this]
      simp [PyData.depth, Nat.add_comm]
  | .bl _, _, h => by cases h
  | .str _, _, h => by cases h
  | .lst _, _, h => by cases h
  | .lck _, _, h => by cases h
  | .fr _, _, h => by cases h
  | .new _, _, h => by cases h
  | .ref _, _, h => by cases h
  | .glob _, _, h => by cases h
  | .ty _, _, h => by cases h
  | .obj _ _, _, h => by cases h
  | .bor _ _, _, h => by cases h
  | .exh _ _ _ _, _, h => by cases h
theorem depths_dat : ∀ (ds : List D) (ks : List DS.Ky), keyDs ds = some ks → NestedKey.depthAll ks = PyData.depthAll (datDs ds)
  | [], _, h => by cases h; rfl
  | d :: ds, _, h => by
    unfold keyDs at h
    cases q : keyD d with
    | none => rw [q] at h; cases h
    | some k =>
      rw [q] at h
      cases q2 : keyDs ds with
      | none => rw [q2] at h; cases h
      | some ks =>
        rw [q2] at h
        cases h
        have a := depth_dat d k q
        have b := depths_dat ds ks q2
        show max k.depth (NestedKey.depthAll ks) = PyData.depthAll (datD d :: datDs ds)
        rw [a, b]
        simp [PyData.depthAll]
end
mutual
theorem keyD_inj : ∀ (d e : D) (k : DS.Ky), keyD d = some k → keyD e = some k → d = e
  | .non, e, k, h, q => by
    cases h
    cases e <;> first | rfl | (unfold keyD at q; cases q; done) | (exfalso; unfold keyD at q; revert q; cases keyDs _ <;> intro q <;> cases q)
  | .int i, e, k, h, q => by
    cases h
    cases e <;> first | (unfold keyD at q; cases q; rfl) | (unfold keyD at q; cases q; done) | (exfalso; unfold keyD at q; revert q; cases keyDs _ <;> intro q <;> cases q)
  | .tup ds, e, k, h, q => by
    have h : Option.map NestedKey.tup (keyDs ds) = some k := h
    cases z : keyDs ds with
    | none => rw [z] at h; cases h
    | some ks =>
      rw [z] at h
      cases h
      cases e with
      | tup es =>
        have q : Option.map NestedKey.tup (keyDs es) = some (NestedKey.tup ks) := q
        cases z2 : keyDs es with
        | none => rw [z2] at q; cases q
        | some js =>
          rw [z2] at q
          cases q
          rw [keyDs_inj ds es ks z z2]
      | _ => unfold keyD at q; cases q
  | .bl _, _, _, h, _ => by cases h
  | .str _, _, _, h, _ => by cases h
  | .lst _, _, _, h, _ => by cases h
  | .lck _, _, _, h, _ => by cases h
  | .fr _, _, _, h, _ => by cases h
  | .new _, _, _, h, _ => by cases h
  | .ref _, _, _, h, _ => by cases h
  | .glob _, _, _, h, _ => by cases h
  | .ty _, _, _, h, _ => by cases h
  | .obj _ _, _, _, h, _ => by cases h
  | .bor _ _, _, _, h, _ => by cases h
  | .exh _ _ _ _, _, _, h, _ => by cases h
theorem keyDs_inj : ∀ (ds es : List D) (ks : List DS.Ky), keyDs ds = some ks → keyDs es = some ks → ds = es
  | [], es, ks, h, q => by
    cases h
    cases es with
    | nil => rfl
    | cons e es =>
      exfalso
      unfold keyDs at q
      revert q
      cases keyD e <;> cases keyDs es <;> intro q <;> cases q
  | d :: ds, es, ks, h, q => by
    unfold keyDs at h
    cases z1 : keyD d with
    | none => rw [z1] at h; cases h
    | some k =>
      rw [z1] at h
      cases z2 : keyDs ds with
      | none => rw [z2] at h; cases h
      | some js =>
        rw [z2] at h
        cases h
        cases es with
        | nil => cases q
        | cons e es =>
          unfold keyDs at q
          cases y1 : keyD e with
          | none => rw [y1] at q; cases q
          | some k2 =>
            rw [y1] at q
            cases y2 : keyDs es with
            | none => rw [y2] at q; cases q
            | some js2 =>
              rw [y2] at q
              cases q
              rw [keyD_inj d e k z1 y1, keyDs_inj ds es js z2 y2]
end
mutual
theorem key_nv {K : PySem.W.Frag} {mg : Mg} {H0 H : Hp} {av θ : List Addr} : ∀ (d : D) (k : DS.Ky) (v : V), rep K mg H0 av θ H d v → keyD d = some k → DS.NV K H k v
  | .non, _, _, r, h => by cases h; exact r
  | .int i, _, _, r, h => by cases h; exact r
  | .tup ds, k, v, ⟨a, xs, e, t, r⟩, h => by
    have h : Option.map NestedKey.tup (keyDs ds) = some k := h
    cases z : keyDs ds with
    | none => rw [z] at h; cases h
    | some ks =>
      rw [z] at h
      cases h
      exact ⟨a, xs, e, t.sq, keys_nv ds ks xs r z⟩
  | .bl _, _, _, _, h => by cases h
  | .str _, _, _, _, h => by cases h
  | .lst _, _, _, _, h => by cases h
  | .lck _, _, _, _, h => by cases h
  | .fr _, _, _, _, h => by cases h
  | .new _, _, _, _, h => by cases h
  | .ref _, _, _, _, h => by cases h
  | .glob _, _, _, _, h => by cases h
  | .ty _, _, _, _, h => by cases h
  | .obj _ _, _, _, _, h => by cases h
  | .bor _ _, _, _, _, h => by cases h
  | .exh _ _ _ _, _, _, _, h => by cases h
theorem keys_nv {K : PySem.W.Frag} {mg : Mg} {H0 H : Hp} {av θ : List Addr} : ∀ (ds : List D) (ks : List DS.Ky) (xs : List V), repL K mg H0 av θ H ds xs → keyDs ds = some ks → DS.NVs K H ks xs
  | [], _, xs, r, h => by cases h; exact r
  | d :: ds, _, _, ⟨x, rr, e, r1, r2⟩, h => by
    unfold keyDs at h
    cases z1 : keyD d with
    | none => rw [z1] at h; cases h
    | some k =>
      rw [z1] at h
      cases z2 : keyDs ds with
      | none => rw [z2] at h; cases h
      | some ks =>
        rw [z2] at h
        cases h
        exact ⟨x, rr, e, key_nv d k x r1 z1, keys_nv ds ks rr r2 z2⟩
end
/-! ### the order -/
def leD : D → D → Bool := dataLe false datD
theorem leD_total : TotalLe leD := sortLe_total (listOrd itemOrd) false fun d => keyToks (datD d)
def sortD (ds : List D) : List D := ds.mergeSort leD
theorem sortD_perm (ds : List D) : (sortD ds).Perm ds := List.mergeSort_perm _ _
theorem sortD_sorted (ds : List D) : (sortD ds).Pairwise fun a b => leD a b = true := sort_pairwise leD_total ds
theorem lex_more (c : Int ⊕ List Nat) (t : List (Int ⊕ List Nat)) : PyProof.Rows.lexLt itemOrd t (t ++ [c]) = true := by
  have h := lex_pre t [] [c]
  rw [List.append_nil] at h
  rw [h]
  rfl
theorem eqv_of_toks {x y : PyData} (h : alike x y = true) (e : keyToks x = keyToks y) : PyData.eqv x y = true := by
  cases q : PyData.eqv x y with
  | true => rfl
  | false =>
    have z := (toks_eqv x y h).2 q [] [.inl 0]
    rw [e, List.append_nil, lex_more] at z
    have := lex_irrefl (O := itemOrd) (keyToks y)
    rw [this] at z
    cases z
mutual
theorem eqv_dat : ∀ (d e : D), (keyD d).isSome = true → (keyD e).isSome = true → PyData.eqv (datD d) (datD e) = true → d = e
  | .non, e, _, h2, q => by cases e <;> first | rfl | (simp [keyD] at h2; done) | (simp [datD, PyData.eqv] at q)
  | .int i, e, _, h2, q => by
    cases e <;> first | (simp [keyD] at h2; done) | (simp [datD, PyData.eqv] at q; first | done | (rw [q]))
  | .tup ds, e, h1, h2, q => by
    cases e with
    | tup es =>
      have h1 : (keyDs ds).isSome = true := by unfold keyD at h1; simpa using h1
      have h2 : (keyDs es).isSome = true := by unfold keyD at h2; simpa using h2
      have q : PyData.eqvAll (datDs ds) (datDs es) = true := by simpa [datD, PyData.eqv] using q
      rw [eqvs_dat ds es h1 h2 q]
    | non => simp [datD, PyData.eqv] at q
    | int i => simp [datD, PyData.eqv] at q
    | _ => simp [keyD] at h2
  | .bl _, _, h, _, _ => by simp [keyD] at h
  | .str _, _, h, _, _ => by simp [keyD] at h
  | .lst _, _, h, _, _ => by simp [keyD] at h
  | .lck _, _, h, _, _ => by simp [keyD] at h
  | .fr _, _, h, _, _ => by simp [keyD] at h
  | .new _, _, h, _, _ => by simp [keyD] at h
  | .ref _, _, h, _, _ => by simp [keyD] at h
  | .glob _, _, h, _, _ => by simp [keyD] at h
  | .ty _, _, h, _, _ => by simp [keyD] at h
  | .obj _ _, _, h, _, _ => by simp [keyD] at h
  | .bor _ _, _, h, _, _ => by simp [keyD] at h
  | .exh _ _ _ _, _, h, _, _ => by simp [keyD] at h
theorem eqvs_dat : ∀ (ds es : List D), (keyDs ds).isSome = true → (keyDs es).isSome = true → PyData.eqvAll (datDs ds) (datDs es) = true → ds = es
  | [], es, _, _, q => by cases es with
    | nil => rfl
    | cons e es => simp [datDs, PyData.eqvAll] at q
  | d :: ds, es, h1, h2, q => by
    cases es with
    | nil => simp [datDs, PyData.eqvAll] at q
    | cons e es =>
      have a : (keyD d).isSome = true ∧ (keyDs ds).isSome = true := by
        unfold keyDs at h1
        cases z1 : keyD d <;> cases z2 : keyDs ds <;> simp_all
      have b : (keyD e).isSome = true ∧ (keyDs es).isSome = true := by
        unfold keyDs at h2
        cases z1 : keyD e <;> cases z2 : keyDs es <;> simp_all
      have q : PyData.eqv (datD d) (datD e) = true ∧ PyData.eqvAll (datDs ds) (datDs es) = true := by
        simpa [datDs, PyData.eqvAll] using q
      rw [eqv_dat d e a.1 b.1 q.1, eqvs_dat ds es a.2 b.2 q.2]
end
theorem leD_anti {d e : D} (h1 : (keyD d).isSome = true) (h2 : (keyD e).isSome = true) (ha : alike (datD d) (datD e) = true) (a : leD d e = true) (b : leD e d = true) : d = e := by
  have a1 : (listOrd itemOrd).blt (keyToks (datD e)) (keyToks (datD d)) = false := by
    have a : (!(listOrd itemOrd).blt (keyToks (datD e)) (keyToks (datD d))) = true := a
    simpa using a
  have b1 : (listOrd itemOrd).blt (keyToks (datD d)) (keyToks (datD e)) = false := by
    have b : (!(listOrd itemOrd).blt (keyToks (datD d)) (keyToks (datD e))) = true := b
    simpa using b
  exact eqv_dat d e h1 h2 (eqv_of_toks ha ((listOrd itemOrd).total _ _ b1 a1))
/-! ### what can be sorted -/
/-- all of them keys that compare -/
def AlikeL (ds : List D) : Prop := ∀ d ∈ ds, (keyD d).isSome = true ∧ (datD d).depth ≤ 8 ∧ ∀ e ∈ ds, alike (datD d) (datD e) = true
def Sorts (ds : List D) : Prop := AlikeL ds ∧ ((∀ d ∈ ds, ∃ xs, d = .tup xs) ∨ ∀ d ∈ ds, ∃ i, d = .int i)
noncomputable def g1Sort : Mem → D → Option D := fun μ x => (lsAny μ x).bind fun ds => when_ (Sorts ds) (some (.new (sortD ds)))
noncomputable def gSort := c1 g1Sort
section
variable {X : Cx} {H0 : Hp} {W : WX} {av θ : List Addr} {sd : Sl} {μ : Mem} {σ : L2.St} {H : Hp}
/-- data, values and keys together -/
theorem tri {K : PySem.W.Frag} {mg : Mg} : ∀ {ds : List D} {xs : List V}, repL K mg H0 av θ H ds xs → (∀ d ∈ ds, (keyD d).isSome = true) → ∃ zs : List (D × V × DS.Ky), zs.map (·.1) = ds ∧ zs.map (·.2.1) = xs ∧ ∀ z ∈ zs, rep K mg H0 av θ H z.1 z.2.1 ∧ keyD z.1 = some z.2.2
  | [], xs, r, _ => by
    have r : xs = [] := r
    subst r
    exact ⟨[], rfl, rfl, fun z hz => by cases hz⟩
  | d :: ds, _, ⟨x, rr, e, r1, r2⟩, h => by
    subst e
    obtain ⟨zs, h1, h2, h3⟩ := tri r2 fun d hd => h d (List.mem_cons_of_mem _ hd)
    obtain ⟨k, hk⟩ := Option.isSome_iff_exists.mp (h d List.mem_cons_self)
    refine ⟨(d, x, k) :: zs, by simp [h1], by simp [h2], fun z hz => ?_⟩
    rcases List.mem_cons.mp hz with rfl | hz
    · exact ⟨r1, hk⟩
    · exact h3 z hz
theorem repL_of {K : PySem.W.Frag} {mg : Mg} : ∀ (zs : List (D × V × DS.Ky)), (∀ z ∈ zs, rep K mg H0 av θ H z.1 z.2.1) → repL K mg H0 av θ H (zs.map (·.1)) (zs.map (·.2.1))
  | [], _ => rfl
  | z :: zs, h => ⟨z.2.1, _, rfl, h z List.mem_cons_self, repL_of zs fun y hy => h y (List.mem_cons_of_mem _ hy)⟩
theorem cd_sort (hu : X.A.units + 64 < cLine) : CallD X (.builtin "sorted") gSort := cd1 (DS.cr_sortL hu) fun H0 av θ sd μ σ H dx x d Q R rx hg q => by
  have hg : ((lsAny μ dx).bind fun ds => when_ (Sorts ds) (some (.new (sortD ds)))) = some d := hg
  cases h : lsAny μ dx with
  | none => rw [h] at hg; cases hg
  | some ds =>
    rw [h] at hg
    obtain ⟨c, hg⟩ := when_some (show when_ _ _ = some d from hg)
    cases hg
    obtain ⟨a, xs, rfl, t, r⟩ := lsAny_at R rx h
    obtain ⟨zs, h1, h2, h3⟩ := tri r fun d hd => (c.1 d hd).1
    have dat : ∀ z ∈ zs, z.2.2.data = datD z.1 := fun z hz => (keyD_dat _ _ (h3 z hz).2).1
    have mem : ∀ z ∈ zs, z.1 ∈ ds := fun z hz => by rw [← h1]; exact List.mem_map.mpr ⟨z, hz, rfl⟩
    refine ⟨a, zs.map (·.2), rfl, by rw [List.map_map]; rw [← h2] at t; exact t, fun p hp => ?_, fun e he f hf => ?_, ?_, fun p hp => ?_⟩
    · obtain ⟨z, hz, rfl⟩ := List.mem_map.mp hp
      exact ⟨key_nv _ _ _ (h3 z hz).1 (h3 z hz).2, by rw [dat z hz]; exact (c.1 _ (mem z hz)).2.1⟩
    · obtain ⟨p, hp, rfl⟩ := List.mem_map.mp he
      obtain ⟨y, hy, rfl⟩ := List.mem_map.mp hp
      obtain ⟨p2, hp2, rfl⟩ := List.mem_map.mp hf
      obtain ⟨z, hz, rfl⟩ := List.mem_map.mp hp2
      show alike y.2.2.data z.2.2.data = true
      rw [dat y hy, dat z hz]
      exact (c.1 _ (mem y hy)).2.2 _ (mem z hz)
    · rcases c.2 with c2 | c2
      · refine .inl fun e he => ?_
        obtain ⟨p, hp, rfl⟩ := List.mem_map.mp he
        obtain ⟨y, hy, rfl⟩ := List.mem_map.mp hp
        obtain ⟨ws, e⟩ := c2 _ (mem y hy)
        show ∃ xs, y.2.2.data = .tuple xs
        rw [dat y hy, e]
        exact ⟨_, rfl⟩
      · refine .inr fun e he => ?_
        obtain ⟨p, hp, rfl⟩ := List.mem_map.mp he
        obtain ⟨y, hy, rfl⟩ := List.mem_map.mp hp
        obtain ⟨i, e⟩ := c2 _ (mem y hy)
        show y.2.2.data ≠ .none ∧ ∀ xs, y.2.2.data ≠ .tuple xs
        rw [dat y hy, e]
        exact ⟨(fun z => by cases z), fun xs z => by cases z⟩
    · have m1 : (zs.mergeSort fun a b => leD a.1 b.1).map (·.1) = sortD ds := by
        rw [List.map_mergeSort (s := leD) (fun a _ b _ => rfl), h1]
        rfl
      have m2 : (zs.mergeSort fun a b => leD a.1 b.1).map (·.2) = (zs.map (·.2)).mergeSort (dataLe false fun p => p.2.data) := by
        refine List.map_mergeSort fun a ha b hb => ?_
        show sortLe (listOrd itemOrd) false (fun b => keyToks (datD b)) a.1 b.1 = sortLe (listOrd itemOrd) false (fun b : V × DS.Ky => keyToks b.2.data) a.2 b.2
        show (!(listOrd itemOrd).blt (keyToks (datD b.1)) (keyToks (datD a.1))) = (!(listOrd itemOrd).blt (keyToks b.2.2.data) (keyToks a.2.2.data))
        rw [dat a ha, dat b hb]
      rw [← m2, List.map_map]
      have rr : repL X.K X.mg H0 av θ H (sortD ds) ((zs.mergeSort fun a b => leD a.1 b.1).map fun z => z.2.1) := by
        rw [← m1]
        exact repL_of _ fun z hz => (h3 z ((List.mergeSort_perm _ _).mem_iff.mp hz)).1
      exact q.lst R rr hp
/-! ### sorted(set(xs)) -/
def sameD (d e : D) : Bool := leD d e && leD e d
def onceD : List D → List D
  | [] => []
  | d :: ds => if ds.any (sameD d) = true then onceD ds else d :: onceD ds
noncomputable def g1SortSet : Mem → D → Option D := fun μ x => (lsAny μ x).bind fun ds => when_ (AlikeL ds ∧ (∀ d ∈ ds, ∃ xs, d = .tup xs) ∧ (∀ d ∈ ds, (datD d).depth ≤ 7) ∧ ds.length < 300) (some (.new (sortD (onceD ds))))
noncomputable def gSortSet := c1 g1SortSet
theorem onceD_mem : ∀ {ds : List D} {d : D}, d ∈ onceD ds → d ∈ ds
  | [], _, h => h
  | e :: ds, d, h => by
    unfold onceD at h
    split at h
    · exact List.mem_cons_of_mem _ (onceD_mem h)
    · rcases List.mem_cons.mp h with h | h
      · rw [h]; exact List.mem_cons_self
      · exact List.mem_cons_of_mem _ (onceD_mem h)
theorem sameD_eq {ds : List D} (h : AlikeL ds) {d e : D} (hd : d ∈ ds) (he : e ∈ ds) : sameD d e = true ↔ d = e := by
  unfold sameD
  rw [Bool.and_eq_true]
  constructor
  · intro ⟨a, b⟩
    exact leD_anti (h d hd).1 (h e he).1 ((h d hd).2.2 e he) a b
  · rintro rfl
    exact ⟨leD_total.refl d, leD_total.refl d⟩
theorem AlikeL.tail {d : D} {ds : List D} (h : AlikeL (d :: ds)) : AlikeL ds := fun e he => ⟨(h e (List.mem_cons_of_mem _ he)).1, (h e (List.mem_cons_of_mem _ he)).2.1, fun f hf => (h e (List.mem_cons_of_mem _ he)).2.2 f (List.mem_cons_of_mem _ hf)⟩
theorem onceD_all : ∀ {ds : List D}, AlikeL ds → ∀ {d : D}, d ∈ ds → d ∈ onceD ds
  | [], _, _, h => h
  | e :: ds, h, d, hd => by
    unfold onceD
    split
    · rename_i q
      rcases List.mem_cons.mp hd with rfl | hd
      · obtain ⟨f, hf, e2⟩ := List.any_eq_true.mp q
        rw [(sameD_eq h List.mem_cons_self (List.mem_cons_of_mem _ hf)).mp e2]
        exact onceD_all h.tail hf
      · exact onceD_all h.tail hd
    · rcases List.mem_cons.mp hd with rfl | hd
      · exact List.mem_cons_self
      · exact List.mem_cons_of_mem _ (onceD_all h.tail hd)
theorem onceD_nodup : ∀ {ds : List D}, AlikeL ds → (onceD ds).Nodup
  | [], _ => List.nodup_nil
  | e :: ds, h => by
    unfold onceD
    split
    · exact onceD_nodup h.tail
    · rename_i q
      refine List.nodup_cons.mpr ⟨fun z => q (List.any_eq_true.mpr ⟨e, onceD_mem z, ?_⟩), onceD_nodup h.tail⟩
      exact (sameD_eq h List.mem_cons_self (List.mem_cons_of_mem _ (onceD_mem z))).mpr rfl
/-- the two calls, one within the other -/
theorem pd_sortSet {e : Expr} {f : EE} {p p2 pos pos2 : Pos} (hc : X.calm = true) (hu : X.A.units + 64 < cLine) (hg : Gl X "sorted") (hm : X.mg "sorted" = none) (hv : bootBuiltins "sorted" = some (.builtin "sorted"))
    (hg2 : Gl X "set") (hm2 : X.mg "set" = none) (hv2 : bootBuiltins "set" = some (.type "set")) (he : PE X e (tE X.K X.mg H0 W f))
    (hs1 : starEach [e] X.env = (false, eval e X.env) :: starEach [] X.env := by rfl) (hp1 : (backTo pos2 (starEach [] X.env)).any (·.1) = false := by rfl)
    (hs2 : starEach [.Call (.Name "set" p2) [e] [] pos2] X.env = (false, eval (.Call (.Name "set" p2) [e] [] pos2) X.env) :: starEach [] X.env := by rfl) (hp2 : (backTo pos (starEach [] X.env)).any (·.1) = false := by rfl) :
    PE X (.Call (.Name "sorted" p) [.Call (.Name "set" p2) [e] [] pos2] [] pos) (tE X.K X.mg H0 W (eCB gSortSet (eCons f eNil))) := by
  have inner := pe_callTy (p := p2) (pos := pos2) (DS.cr_setK (X := X) hc hu) hg2 hm2 hv2 (pa_cons he pa_nil hs1) (by decide) (by decide) hs1 hp1
  refine wkE (pe_callB (p := p) (pos := pos) (DS.cr_sortSet (X := X) hc hu) hg hm hv (pa_cons inner pa_nil hs2) (by decide) (by decide) hs2 hp2) fun σ H Q ⟨av, θ, sd, μ, R, P⟩ => ⟨av, θ, sd, μ, R, ?_⟩
  have P : Post X.K X.mg H0 W (relD X.K X.mg H0) av θ sd σ H Q (bE (f sd μ) fun x μ1 => (g1SortSet μ1 x).map fun d => (.ok d, μ1)) := by
    have e0 : eCB gSortSet (eCons f eNil) sd μ = bE (f sd μ) fun x μ1 => (g1SortSet μ1 x).map fun d => (.ok d, μ1) := by
      unfold eCB eCons eNil
      match f sd μ with
      | none => rfl
      | some (.error e, μ1) => rfl
      | some (.ok x, μ1) => rfl
    rw [← e0]; exact P
  refine P.bind antiD fun dx μ1 v θ1 H1 nv g1 R1 r1 P1 => ?_
  have R1 := R1.plain
  have P1 : Post X.K X.mg H0 W (relD X.K X.mg H0) av θ1 sd σ H1 Q (((lsAny μ1 dx).bind fun ds => when_ (AlikeL ds ∧ (∀ d ∈ ds, ∃ xs, d = .tup xs) ∧ (∀ d ∈ ds, (datD d).depth ≤ 7) ∧ ds.length < 300) (some (.new (sortD (onceD ds))))).map fun d => (.ok d, μ1)) := P1
  obtain ⟨d, hd, q⟩ := P1.ask
  cases h : lsAny μ1 dx with
  | none => rw [h] at hd; cases hd
  | some ds =>
    rw [h] at hd
    obtain ⟨⟨c1, c2, c3, c4⟩, hd⟩ := when_some (show when_ _ _ = some d from hd)
    cases hd
    obtain ⟨a, xs, rfl, t, r⟩ := lsAny_at R1 r1.1 h
    obtain ⟨zs, h1, h2, h3⟩ := tri r fun d hd => (c1 d hd).1
    have mem : ∀ z ∈ zs, z.1 ∈ ds := fun z hz => by rw [← h1]; exact List.mem_map.mpr ⟨z, hz, rfl⟩
    have dat : ∀ z ∈ zs, z.2.2.data = datD z.1 := fun z hz => (keyD_dat _ _ (h3 z hz).2).1
    have isr : ∀ z ∈ zs, ∃ b, z.2.1 = .ref b := fun z hz => by
      obtain ⟨ws, e⟩ := c2 _ (mem z hz)
      have rz := (h3 z hz).1
      rw [e] at rz
      obtain ⟨b, _, eb, _⟩ := rz
      exact ⟨b, eb⟩
    have adr : ∃ ad : V → Addr, ∀ z ∈ zs, z.2.1 = .ref (ad z.2.1) := ⟨fun v => match v with | .ref b => b | _ => 0, fun z hz => by obtain ⟨b, e⟩ := isr z hz; rw [e]⟩
    obtain ⟨ad, had⟩ := adr
    have vr : zs.map (fun z => V.ref (ad z.2.1)) = xs := by
      rw [← h2]
      exact List.map_congr_left fun z hz => (had z hz).symm
    show DS.rSetK X.K X.w [.ref a] H1 fun v H2 => DS.rSortSet X.K X.w [v] H2 Q
    refine ⟨a, zs.map (fun z => (ad z.2.1, z.2.2)), rfl, by rw [List.map_map]; exact vr ▸ t, fun p hp => ?_, by rw [List.length_map, ← List.length_map (f := fun z : D × V × DS.Ky => z.1), h1]; exact c4, fun b L hb hL1 hL2 => ?_⟩
    · obtain ⟨z, hz, rfl⟩ := List.mem_map.mp hp
      have k := key_nv _ _ _ (h3 z hz).1 (h3 z hz).2
      rw [had z hz] at k
      refine ⟨k, ?_, (keyD_dat _ _ (h3 z hz).2).2⟩
      have := depth_dat _ _ (h3 z hz).2
      show z.2.2.depth ≤ 7
      rw [this]
      exact c3 _ (mem z hz)
    · have ex1 : Exh H1 (upd H1 b (DS.SetO X.w b L)) := Exh.new hb
      have R2 := R1.grow ex1
      generalize hH2 : upd H1 b (DS.SetO X.w b L) = H2 at ex1 R2 ⊢
      have h4 : ∀ z ∈ zs, rep X.K X.mg H0 av θ1 H2 z.1 z.2.1 := fun z hz => rep.gr (Gr.of_ex ex1) _ _ (h3 z hz).1
      have src : ∀ p ∈ L, ∃ z ∈ zs, p = (ad z.2.1, z.2.2) := fun p hp => by
        obtain ⟨z, hz, e⟩ := List.mem_map.mp (hL1 p hp)
        exact ⟨z, hz, e.symm⟩
      refine ⟨b, L, rfl, by rw [← hH2]; exact upd_same, fun p hp => ?_, fun e he f hf => ?_, fun M p pm nd pw hp => ?_⟩
      · obtain ⟨z, hz, rfl⟩ := src p hp
        have k := key_nv _ _ _ (h4 z hz) (h3 z hz).2
        rw [had z hz] at k
        have := depth_dat _ _ (h3 z hz).2
        refine ⟨k, ?_, (keyD_dat _ _ (h3 z hz).2).2, ?_⟩
        · show z.2.2.depth ≤ 7
          rw [this]
          exact c3 _ (mem z hz)
        · show z.2.2.data.depth ≤ 8
          rw [dat z hz]
          exact (c1 _ (mem z hz)).2.1
      · obtain ⟨p, hp, rfl⟩ := List.mem_map.mp he
        obtain ⟨p2, hp2, rfl⟩ := List.mem_map.mp hf
        obtain ⟨y, hy, rfl⟩ := src p hp
        obtain ⟨z, hz, rfl⟩ := src p2 hp2
        show alike y.2.2.data z.2.2.data = true
        rw [dat y hy, dat z hz]
        exact (c1 _ (mem y hy)).2.2 _ (mem z hz)
      · have pick : ∀ N : List (Addr × DS.Ky), (∀ p ∈ N, p ∈ L) → ∃ ys : List (D × V × DS.Ky), ys.map (fun z => (ad z.2.1, z.2.2)) = N ∧ ∀ y ∈ ys, y ∈ zs := by
          intro N
          induction N with
          | nil => intro _; exact ⟨[], rfl, fun y hy => by cases hy⟩
          | cons p N ih =>
            intro h
            obtain ⟨z, hz, e⟩ := src p (h p List.mem_cons_self)
            obtain ⟨ys, e1, e2⟩ := ih fun q hq => h q (List.mem_cons_of_mem _ hq)
            refine ⟨z :: ys, by rw [List.map_cons, e1, e], fun y hy => ?_⟩
            rcases List.mem_cons.mp hy with rfl | hy
            · exact hz
            · exact e2 y hy
        obtain ⟨ys, e1, e2⟩ := pick M fun p hp => pm.mem_iff.mp hp
        subst e1
        have es : ys.map (·.1) = sortD (onceD ds) := by
          have ids : ∀ e ∈ ys.map (·.1), e ∈ ds := fun e he => by
            obtain ⟨y, hy, rfl⟩ := List.mem_map.mp he
            exact mem y (e2 y hy)
          refine List.Perm.eq_of_pairwise (le := fun a b => leD a b = true) (fun c e hc he k1 k2 => ?_) ?_ (sortD_sorted _) ?_
          · have hc := ids c hc
            have he : e ∈ ds := onceD_mem ((sortD_perm _).mem_iff.mp he)
            exact leD_anti (c1 c hc).1 (c1 e he).1 ((c1 c hc).2.2 e he) k1 k2
          · rw [List.pairwise_map] at pw ⊢
            refine List.Pairwise.imp_of_mem (fun {y z} hy hz k => ?_) pw
            have k : (!(listOrd itemOrd).blt (keyToks z.2.2.data) (keyToks y.2.2.data)) = true := k
            rw [dat y (e2 y hy), dat z (e2 z hz)] at k
            exact k
          · refine List.Perm.trans ?_ (sortD_perm _).symm
            have nd2 : (ys.map (·.1)).Nodup := by
              rw [List.map_map] at nd
              rw [List.nodup_iff_pairwise_ne, List.pairwise_map] at nd ⊢
              refine List.Pairwise.imp_of_mem (fun {y z} hy hz k e => ?_) nd
              refine k ?_
              have a := (h3 y (e2 y hy)).2
              rw [e, (h3 z (e2 z hz)).2] at a
              show y.2.2 = z.2.2
              exact (Option.some.inj a).symm
            refine (List.perm_ext_iff_of_nodup nd2 (onceD_nodup c1)).mpr fun e => ⟨fun he => onceD_all c1 (ids e he), fun he => ?_⟩
            have he := onceD_mem he
            rw [← h1] at he
            obtain ⟨z, hz, rfl⟩ := List.mem_map.mp he
            have k1 := hL2 (ad z.2.1, z.2.2) (List.mem_map.mpr ⟨z, hz, rfl⟩)
            have k2 := ((pm.map (·.2)).mem_iff).mpr k1
            rw [List.map_map] at k2
            obtain ⟨y, hy, e⟩ := List.mem_map.mp k2
            have e : y.2.2 = z.2.2 := e
            refine List.mem_map.mpr ⟨y, hy, keyD_inj _ _ _ (h3 y (e2 y hy)).2 ?_⟩
            rw [e]
            exact (h3 z hz).2
        have rr : repL X.K X.mg H0 av θ1 H2 (sortD (onceD ds)) ((ys.map fun z => (ad z.2.1, z.2.2)).map fun q => V.ref q.1) := by
          rw [← es, List.map_map]
          have := repL_of ys fun z hz => h4 z (e2 z hz)
          rwa [List.map_congr_left (g := fun z => V.ref (ad z.2.1)) fun z hz => had z (e2 z hz)] at this
        have q2 : Asks X H0 av θ1 sd μ1 σ H2 (.new (sortD (onceD ds))) Q := fun v H' nv e R r => q v H' nv (ex1.trans e) R (antiD _ _ _ _ _ _ _ _ (fun a h => ex1.back h) r)
        exact q2.lst R2 rr hp
end
end DL
set_option Elab.async false
set_option linter.all false
set_option maxRecDepth 100000
set_option maxHeartbeats 1000000
/-! DM3: class constants, lists frozen, lists of lists handed over, enumerate, reversed, index, isinstance(e, (A, B)), an __init__ by the head's facts. -/
namespace DL
open PySem PySem.Spec PyProof.Rows L2 PySem.W
section
variable {X : Cx} {H0 : Hp} {W : WX} {av θ : List Addr} {sd : Sl} {μ : Mem} {σ : L2.St} {H : Hp}
/-! ### C.f, a number -/
def CvT (K : PySem.W.Frag) (mg : Mg) (T : Str → Str → Option Int) : Prop := ∀ x f i, T x f = some i → ∃ c mc u, mg x = some (.ref c) ∧ ClX.CRead K c mc ∧ ClX.CVal K c mc f (.int i) u
def eCv (T : Str → Str → Option Int) (f : Str) (fo : EE) : EE := fun sd μ => bE (fo sd μ) fun x μ1 => match x with
  | .glob C => (T C f).map fun i => (.ok (.int i), μ1)
  | _ => none
theorem pd_cv {T : Str → Str → Option Int} (hT : CvT X.K X.mg T) {o : Expr} {fo : EE} {f : Str} {pos : Pos} (he : PE X o (tE X.K X.mg H0 W fo)) (hb : attributeBase o f X.env (eval o X.env) = eval o X.env := by rfl) :
    PE X (.Attribute o f pos) (tE X.K X.mg H0 W (eCv T f fo)) := by
  refine wkE (ClX.pe_cval he hb) fun σ H Q ⟨av, θ, sd, μ, R, P⟩ => ⟨av, θ, sd, μ, R, P.bind antiD fun x μ1 v θ1 H1 nv g1 R1 r1 P1 => ?_⟩
  cases x with
  | glob C =>
    have P1 : Post X.K X.mg H0 W (relD X.K X.mg H0) av θ1 sd σ H1 Q ((T C f).map fun i => (.ok (.int i), μ1)) := P1
    cases h : T C f with
    | none => rw [h] at P1; exact P1.elim
    | some i =>
      rw [h] at P1
      obtain ⟨a, rfl, ha⟩ := r1.1
      obtain ⟨c, mc, u, hc, k1, k2⟩ := hT _ _ _ h
      rw [ha] at hc
      cases hc
      exact ⟨a, mc, .int i, u, rfl, k1, k2, P1 _ θ1 H1 [] Gr.refl R1.plain ⟨rfl, fun _ e => by cases e⟩⟩
  | _ => exact P1.elim
/-! ### a list just made is no longer changed -/
def eFrz (f : EE) : EE := fun sd μ => bE (f sd μ) fun d μ1 => some (.ok (frzD d), μ1)
theorem pd_frz {e : Expr} {f : EE} (h : PE X e (tE X.K X.mg H0 W f)) : PE X e (tE X.K X.mg H0 W (eFrz f)) := by
  refine wkE h fun σ H Q ⟨av, θ, sd, μ, R, P⟩ => ⟨av, θ, sd, μ, R, ?_⟩
  unfold eFrz at P
  refine P.bind antiD fun x μ1 v θ1 H1 nv g1 R1 r1 P1 => ?_
  exact P1 v θ1 H1 [] Gr.refl R1.plain ⟨r1.1.frz, fun ds e => by cases x <;> cases e⟩
/-! ### lists of lists as arguments -/
mutual
def argN : D → Option D
  | .non => some .non
  | .bl b => some (.bl b)
  | .int i => some (.int i)
  | .str s => some (.str s)
  | .glob x => some (.glob x)
  | .ty n => some (.ty n)
  | .tup ds => (argNs ds).map .tup
  | .lst ds => (argNs ds).map .lst
  | .lck ds => if okAL ds then some (.lck ds) else none
  | .fr ds => (argNs ds).map .lst
  | .new ds => (argNs ds).map .lst
  | .obj C fs => if okAF fs then some (.obj C fs) else none
  | .bor C fs => if okAF fs then some (.bor C fs) else none
  | _ => none
def argNs : List D → Option (List D)
  | [] => some []
  | d :: ds => (argN d).bind fun x => (argNs ds).map fun xs => x :: xs
end
mutual
theorem rep.argN {K : PySem.W.Frag} {mg : Mg} (e : Exh H0 H) : ∀ (d d' : D) (v : V), argN d = some d' → rep K mg H0 av θ H d v → rep K mg H (θ ++ av) [] H d' v
  | .non, _, _, q, h => by cases q; exact h
  | .bl _, _, _, q, h => by cases q; exact h
  | .int _, _, _, q, h => by cases q; exact h
  | .str _, _, _, q, h => by cases q; exact h
  | .glob _, _, _, q, h => by cases q; exact h
  | .ty _, _, _, q, h => by cases q; exact h
  | .tup ds, _, _, q, ⟨a, xs, e1, t, r⟩ => by
    have q : (argNs ds).map D.tup = some _ := q
    obtain ⟨ds', q1, q2⟩ := Option.map_eq_some_iff.mp q
    subst q2
    exact ⟨a, xs, e1, t.arg, repL.argN e ds ds' xs q1 r⟩
  | .lst ds, _, _, q, ⟨a, xs, e1, t, r⟩ => by
    have q : (argNs ds).map D.lst = some _ := q
    obtain ⟨ds', q1, q2⟩ := Option.map_eq_some_iff.mp q
    subst q2
    exact ⟨a, xs, e1, e _ _ t, repL.argN e ds ds' xs q1 r⟩
  | .lck ds, _, _, q, h => by
    have q : (if okAL ds then some (D.lck ds) else none) = some _ := q
    split at q
    · rename_i p
      cases q
      exact rep.arg e _ _ p h
    · cases q
  | .fr ds, _, _, q, ⟨a, xs, e1, n, m, f, t, r⟩ => by
    have q : (argNs ds).map D.lst = some _ := q
    obtain ⟨ds', q1, q2⟩ := Option.map_eq_some_iff.mp q
    subst q2
    exact ⟨a, xs, e1, t, repL.argN e ds ds' xs q1 r⟩
  | .new ds, _, _, q, ⟨a, xs, e1, n, m, f, t, r⟩ => by
    have q : (argNs ds).map D.lst = some _ := q
    obtain ⟨ds', q1, q2⟩ := Option.map_eq_some_iff.mp q
    subst q2
    exact ⟨a, xs, e1, t, repL.argN e ds ds' xs q1 r⟩
  | .obj C fs, _, _, q, h => by
    have q : (if okAF fs then some (D.obj C fs) else none) = some _ := q
    split at q
    · rename_i p
      cases q
      exact rep.arg e _ _ p h
    · cases q
  | .bor C fs, _, _, q, h => by
    have q : (if okAF fs then some (D.bor C fs) else none) = some _ := q
    split at q
    · rename_i p
      cases q
      exact rep.arg e _ _ p h
    · cases q
  | .ref _, _, _, q, _ => by cases q
  | .exh _ _ _ _, _, _, q, _ => by cases q
theorem repL.argN {K : PySem.W.Frag} {mg : Mg} (e : Exh H0 H) : ∀ (ds ds' : List D) (vs : List V), argNs ds = some ds' → repL K mg H0 av θ H ds vs → repL K mg H (θ ++ av) [] H ds' vs
  | [], _, _, q, h => by cases q; exact h
  | d :: ds, _, _, q, ⟨x, r, e1, h, t⟩ => by
    have q : ((DL.argN d).bind fun x => (argNs ds).map fun xs => x :: xs) = some _ := q
    obtain ⟨x', q1, q2⟩ := Option.bind_eq_some_iff.mp q
    obtain ⟨xs', q3, q4⟩ := Option.map_eq_some_iff.mp q2
    subst q4
    exact ⟨x, r, e1, rep.argN e d x' x q1 h, repL.argN e ds xs' r q3 t⟩
end
theorem argNs_length : ∀ {ds ds' : List D}, argNs ds = some ds' → ds'.length = ds.length
  | [], _, h => by cases h; rfl
  | d :: ds, _, q => by
    have q : ((argN d).bind fun x => (argNs ds).map fun xs => x :: xs) = some _ := q
    obtain ⟨x', q1, q2⟩ := Option.bind_eq_some_iff.mp q
    obtain ⟨xs', q3, q4⟩ := Option.map_eq_some_iff.mp q2
    subst q4
    rw [List.length_cons, List.length_cons, argNs_length q3]
/-- .. of lists of lists too; a list of the frame's own only where nothing else is asked -/
def argsM (μ : Mem) (ds : List D) : Option (List D) := (argsD μ ds).or (argNs ds)
def eCallN (m : Mir) (np : Nat) (a : EA) : EE := fun sd μ => bE (a sd μ) fun ds μ1 => (argsM μ1 ds).bind fun ds' => if ds'.length = np then match m ds' with
    | none => none
    | some (.ok d) => some (.ok d, μ1)
    | some (.error e) => some (.error e, μ1)
  else none
theorem argsM_ok {K : PySem.W.Frag} {mg : Mg} {ds ds' : List D} {vs : List V} (R : RS K mg H0 av θ sd μ σ H) (r : repL K mg H0 av θ H ds vs) (h : argsM μ ds = some ds') : repL K mg H (θ ++ av) [] H ds' vs := by
  unfold argsM at h
  cases q : argsD μ ds with
  | some es => rw [q] at h; cases h; exact args_ok R r q
  | none => rw [q] at h; exact repL.argN R.ex _ _ _ h r
/-- C(e, ..) -/
theorem pd_makeN {x : Str} {k j np : Nat} {m : Mir} {e : Expr} {es : List Expr} {ga : EA} {p pos : Pos} (F : MkD X.prog X.w X.K X.mg X.base x k np m) (tk : Takes X W) (hr : Room (j + 1) X.A) (ha : PA X (e :: es) (tA X.K X.mg H0 W ga)) (hk : k ≤ j := by decide) (hg : Gl X x := by rfl)
    (hdb : (x == ("__debug__" : Str)) = false := by decide) (he : starEach (e :: es) X.env = (false, eval e X.env) :: starEach es X.env := by rfl) (hpl : (backTo pos (starEach es X.env)).any (·.1) = false := by rfl) :
    PE X (.Call (.Name x p) (e :: es) [] pos) (tE X.K X.mg H0 W (eCallN m np ga)) := by
  obtain ⟨C, f, fd, ps, hm, hM, hb, hps, F⟩ := F
  refine wkE (pe_makeS hM F (hr.mono (Nat.succ_le_succ hk)) hg hm hb (fun σ => passAt tk σ) ha hdb he hpl) fun σ H Q ⟨av, θ, sd, μ, R, P⟩ => ⟨av, θ, sd, μ, R, P.bind antiD fun ds μ1 vs θ1 H1 nv g1 R1 r1 P1 => ?_⟩
  have R1 := R1.plain
  cases h1 : argsM μ1 ds with
  | none => rw [h1] at P1; exact P1.elim
  | some ds' =>
    rw [h1] at P1
    have P1 : Post X.K X.mg H0 W (relD X.K X.mg H0) av θ1 sd σ H1 Q (if ds'.length = np then match m ds' with
      | none => none
      | some (.ok d) => some (.ok d, μ1)
      | some (.error e) => some (.error e, μ1)
      else none) := P1
    by_cases hn : ds'.length = np
    case neg => rw [if_neg hn] at P1; exact P1.elim
    rw [if_pos hn] at P1
    intro y dx hy hdx hne
    refine ⟨y, H1, C, dx, vs, θ1 ++ av, ds', rfl, hm, hy, hdx, hne, rfl, fun a h => ?_, argsM_ok R1 r1 h1, hn, ?_⟩
    · rcases List.mem_append.mp h with h | h
      · exact R1.has h
      · exact (R1.avs a h).2
    · cases hmd : m ds' with
      | none => rw [hmd] at P1; exact P1.elim
      | some r =>
        rw [hmd] at P1
        cases r with
        | ok d =>
          intro H' ex rr
          obtain ⟨nv, R2, r2⟩ := ret_ok R1 ex rr
          exact ⟨rfl, P1 _ θ1 H' nv (Gr.of_ex ex) R2 r2⟩
        | error e =>
          intro cls dd H' ex rr
          exact P1 cls dd θ1 H' (Gr.of_ex ex) (R1.grow ex) (retX_ok R1 rr)
end
/-! ### for (i, x) in enumerate(list) -/
section
variable {X : Cx} {K : PySem.W.Frag} {mg : Mg} {H0 : Hp} {W : WX} {av θ : List Addr} {sd : Sl} {μ : Mem} {σ : L2.St} {H : Hp} {a b e : Expr} {f fa fb : EE} {ga : EA} {pos : Pos}
def enumD (ds : List D) : List D := ds.zipIdx.map fun z => .tup [.int (z.2 : Nat), z.1]
def iEnumD (f : EA) : IE := fun sd μ => bE (f sd μ) fun ds μ1 => (one ds).bind fun d => (srcD μ1 d).bind fun z => if isTupD d = false then some (.ok (enumD z.1, z.2), μ1) else none
theorem enum_get {ds : List D} {i : Nat} {d : D} (h : (enumD ds)[i]? = some d) : ∃ x, ds[i]? = some x ∧ d = .tup [.int (i : Nat), x] := by
  unfold enumD at h
  rw [List.getElem?_map, List.getElem?_zipIdx] at h
  cases q : ds[i]? with
  | none => rw [q] at h; cases h
  | some x => rw [q] at h; cases h; exact ⟨x, rfl, by simp⟩
theorem it_enum {a : Addr} {ds : List D} {chk : Mem → Prop} (h : Later K mg H0 av SqL a ds chk θ H) : ItOk K mg H0 av (Ite K a) (enumD ds) chk θ H := fun i bv θ1 sd1 μ1 σ1 H1 g hb R hc => by
  obtain ⟨ys, t, r⟩ := h bv θ1 sd1 μ1 σ1 H1 g hb R hc
  refine ⟨fun d hd => ?_, fun hi => ⟨ys, t, by rw [repL.length r]; simpa [enumD] using hi⟩⟩
  obtain ⟨x, hx, rfl⟩ := enum_get hd
  obtain ⟨v, hv, rv⟩ := repL.get r hx
  refine ⟨⟨ys, v, t, hv⟩, fun z H2 ⟨T, y, ez, hT, eH, k⟩ => ?_⟩
  have e := k ys t
  rw [hv] at e
  cases e
  rw [ez, eH]
  exact pair_rep R (x := .int (i : Nat)) (u := .int (i : Nat)) rfl rv hT
theorem pid_enum {p tpos : Pos} {elts : List Expr} {kk : Nat} (hm : X.mg "enumerate" = none) (ha : PA X [e] (tA X.K X.mg H0 W ga)) (hg : Gl X "enumerate" := by rfl) (hs : starEach [e] X.env = [(false, eval e X.env)] := by rfl) :
    PI X (.Tuple elts kk tpos) (.Call (.Name "enumerate" p) [e] [] pos) (tI X.K X.mg H0 W (iEnumD ga)) := by
  refine wkI (pi_enum hg hm ha hs) fun σ H R ⟨av, θ, sd, μ, R0, P⟩ => ⟨av, θ, sd, μ, R0, PostI.vals P fun ds μ1 vs θ1 H1 nv g1 R1 r1 P1 => ?_⟩
  cases h1 : one ds with
  | none => rw [h1] at P1; exact P1.elim
  | some d =>
    rw [h1] at P1
    obtain ⟨v, e, rv⟩ := one_rep r1 h1
    have P1 : PostI X.K X.mg H0 W av θ1 sd σ H1 R ((srcD μ1 d).bind fun z => if isTupD d = false then some (.ok (enumD z.1, z.2), μ1) else none) := P1
    cases h2 : srcD μ1 d with
    | none => rw [h2] at P1; exact P1.elim
    | some z =>
      rw [h2] at P1
      have P1 : PostI X.K X.mg H0 W av θ1 sd σ H1 R (if isTupD d = false then some (.ok (enumD z.1, z.2), μ1) else none) := P1
      by_cases ht : isTupD d = false
      case neg => rw [if_neg ht] at P1; exact P1.elim
      rw [if_pos ht] at P1
      obtain ⟨c, a, xs, rfl, t, l⟩ := src_lst R1.plain rv h2 ht
      exact ⟨a, xs, e, t, P1 _ θ1 H1 Gr.refl R1.plain c (it_enum l)⟩
/-! ### for x in reversed(list or tuple) -/
def iRevD (f : EE) : IE := fun sd μ => bE (f sd μ) fun d μ1 => (srcD μ1 d).map fun z => (.ok (z.1.reverse, z.2), μ1)
theorem rev_get {α : Type} {l : List α} {i : Nat} {x : α} (h : l.reverse[i]? = some x) : i < l.length ∧ l[l.length - 1 - i]? = some x := by
  have hi : i < l.length := by
    have := (List.getElem?_eq_some_iff.mp h).1
    rwa [List.length_reverse] at this
  rw [List.getElem?_reverse hi] at h
  exact ⟨hi, h⟩
theorem it_rev {a : Addr} {ds : List D} {chk : Mem → Prop} (h : Later K mg H0 av SqL a ds chk θ H) : ItOk K mg H0 av (Itv K a ds.length) ds.reverse chk θ H := fun i bv θ1 sd1 μ1 σ1 H1 g hb R hc => by
  obtain ⟨ys, t, r⟩ := h bv θ1 sd1 μ1 σ1 H1 g hb R hc
  refine ⟨fun d hd => ?_, fun hi => by
    have hi : ds.reverse.length ≤ i := hi
    rw [List.length_reverse] at hi
    exact hi⟩
  obtain ⟨hi, hx⟩ := rev_get hd
  obtain ⟨v, hv, rv⟩ := repL.get r hx
  refine ⟨⟨hi, ys, v, t, hv⟩, fun z H2 ⟨eH, k⟩ => ?_⟩
  have e := k ys t
  rw [hv] at e
  cases e
  rw [eH]
  exact ⟨Exh.refl _, rv⟩
theorem it_revT {a : Addr} {ds : List D} {chk : Mem → Prop} (h : Later K mg H0 av SqT a ds chk θ H) : ItOk K mg H0 av (RT.ItvT K a ds.length) ds.reverse chk θ H := fun i bv θ1 sd1 μ1 σ1 H1 g hb R hc => by
  obtain ⟨ys, t, r⟩ := h bv θ1 sd1 μ1 σ1 H1 g hb R hc
  refine ⟨fun d hd => ?_, fun hi => by
    have hi : ds.reverse.length ≤ i := hi
    rw [List.length_reverse] at hi
    exact hi⟩
  obtain ⟨hi, hx⟩ := rev_get hd
  obtain ⟨v, hv, rv⟩ := repL.get r hx
  refine ⟨⟨hi, ys, v, t, hv⟩, fun z H2 ⟨eH, k⟩ => ?_⟩
  have e := k ys t
  rw [hv] at e
  cases e
  rw [eH]
  exact ⟨Exh.refl _, rv⟩
theorem pid_rev {tg : Expr} {p : Pos} (hm : X.mg "reversed" = none) (he : PE X e (tE X.K X.mg H0 W f)) (hg : Gl X "reversed" := by rfl) (hs : starEach [e] X.env = (false, eval e X.env) :: starEach [] X.env := by rfl) :
    PI X tg (.Call (.Name "reversed" p) [e] [] pos) (tI X.K X.mg H0 W (iRevD f)) := by
  refine wkI (RT.pi_revA hg hm he hs) fun σ H R ⟨av, θ, sd, μ, R0, P⟩ => ⟨av, θ, sd, μ, R0, PostI.val P fun d μ1 v θ1 H1 nv g1 R1 r1 P1 => ?_⟩
  cases h2 : srcD μ1 d with
  | none => rw [h2] at P1; exact P1.elim
  | some z =>
    rw [h2] at P1
    obtain ⟨ds, chk⟩ := z
    have P1 : PostI X.K X.mg H0 W av θ1 sd σ H1 R (some (.ok (ds.reverse, chk), μ1)) := P1
    cases ht : isTupD d with
    | true =>
      obtain ⟨c, a, xs, rfl, t, l⟩ := src_tup R1.plain r1.1 h2 ht
      obtain ⟨ys, t2, r2⟩ := l _ θ1 sd μ1 σ H1 Gr.refl (fun b h => .inl h) R1.plain c
      refine ⟨a, ys, rfl, .inr ⟨t2, ?_⟩⟩
      rw [repL.length r2]
      exact P1 _ θ1 H1 Gr.refl R1.plain c (it_revT l)
    | false =>
      obtain ⟨c, a, xs, rfl, t, l⟩ := src_lst R1.plain r1.1 h2 ht
      obtain ⟨ys, t2, r2⟩ := l _ θ1 sd μ1 σ H1 Gr.refl (fun b h => .inl h) R1.plain c
      refine ⟨a, ys, rfl, .inl ⟨t2, ?_⟩⟩
      rw [repL.length r2]
      exact P1 _ θ1 H1 Gr.refl R1.plain c (it_rev l)
/-! ### xs.index(x), x there -/
def firstP (p : PyData) : List PyData → Option Nat
  | [] => none
  | d :: ds => if PyData.eqv d p = true then some 0 else (firstP p ds).map (· + 1)
theorem firstP_spec {p : PyData} : ∀ {ds : List PyData} {j : Nat}, firstP p ds = some j → ∃ z, ds[j]? = some z ∧ PyData.eqv z p = true ∧ ∀ (m : Nat) z', m < j → ds[m]? = some z' → PyData.eqv z' p = false
  | [], _, h => by cases h
  | d :: ds, j, h => by
    unfold firstP at h
    split at h
    · rename_i q
      cases h
      exact ⟨d, rfl, q, fun m z' hm => absurd hm (Nat.not_lt_zero _)⟩
    · rename_i q
      obtain ⟨k, hk, rfl⟩ := Option.map_eq_some_iff.mp h
      obtain ⟨z, h1, h2, h3⟩ := firstP_spec hk
      refine ⟨z, by simpa using h1, h2, fun m z' hm hz => ?_⟩
      cases m with
      | zero =>
        simp at hz
        subst hz
        simpa using q
      | succ m => exact h3 m z' (Nat.lt_of_succ_lt_succ hm) (by simpa using hz)
def gIndex : Mem → D → List D → Option D := fun μ x ds => (toPm μ x).bind fun p => match p, ds with
  | .list ps, [d] => (toPm μ d).bind fun q => if (SeqAt.shaped (.list ps) && SeqAt.shaped q) = true then (firstP q ps).map fun j => .int (j : Nat) else none
  | _, _ => none
def eMl (g : Mem → D → List D → Option D) (f : EE) (a : EA) : EE := fun sd μ => bE (f sd μ) fun x μ1 => (isLst μ1 x).bind fun _ => bE (a sd μ1) fun ds μ2 => (g μ2 x ds).map fun d => (.ok d, μ2)
theorem pd_ml {o e : Expr} {es : List Expr} {name : Str} {id : String} {apos cpos : Pos} {g : Mem → D → List D → Option D} (slot : Slot "list" name id) (hty : typeOf (.builtin id) = pure (.type "method_descriptor")) (hm : MtD X id g)
    (ho : PE X o (tE X.K X.mg H0 W f)) (ha : PA X (e :: es) (tA X.K X.mg H0 W ga))
    (hbase : attributeBase o name X.env (eval o X.env) = eval o X.env := by rfl)
    (hfew : ((backTo cpos (starEach (e :: es) X.env)).all (fun x => !x.1) && (backToKw cpos (keywordEach [] X.env)).all (fun x => x.1.isSome)
      && decide ((e :: es).length + ([] : List Keyword).length + (if ([] : List Keyword).isEmpty then 0 else 1) < 30)) = true := by rfl)
    (hline : (apos.endLine == cpos.line) = true := by rfl) (hs : starEach (e :: es) X.env = (false, eval e X.env) :: starEach es X.env := by rfl) (hplain : (backTo cpos (starEach es X.env)).any (·.1) = false := by rfl) :
    PE X (.Call (.Attribute o name apos) (e :: es) [] cpos) (tE X.K X.mg H0 W (eMl g f ga)) := by
  obtain ⟨r, hr, k⟩ := hm H0
  refine wkE (pe_bm PySem.F.plainAttrs_list slot hty hr ho ha hbase hfew hline hs hplain) fun σ H Q ⟨av, θ, sd, μ, R, P⟩ => ⟨av, θ, sd, μ, R, P.bind antiD fun x μ1 v θ1 H1 nv g1 R1 r1 P1 => ?_⟩
  cases hx : isLst μ1 x with
  | none => rw [hx] at P1; exact P1.elim
  | some es =>
    rw [hx] at P1
    refine ⟨lst_ty R1.plain r1.1 hx, av, θ1, sd, μ1, R1.plain, ?_⟩
    have P1 : Post X.K X.mg H0 W (relD X.K X.mg H0) av θ1 sd σ H1 Q (bE (ga sd μ1) fun ds μ2 => (g μ2 x ds).map fun d => (.ok d, μ2)) := P1
    refine P1.bind antiD fun ds μ2 vs θ2 H2 nw g2 R2 r2 P2 => ?_
    obtain ⟨d, hd, q⟩ := P2.ask
    exact k av θ2 sd μ2 σ H2 x v ds vs d Q R2.plain (repG g2 r1.1) r2 hd q
theorem mt_index (hu : X.A.units + 65 < cLine) : MtD X "list.index" gIndex := fun H0 => ⟨_, mt_indexD hu, fun av θ sd μ σ H dx x ds xs d Q R rx rl hg q => by
  unfold gIndex at hg
  cases h1 : toPm μ dx with
  | none => rw [h1] at hg; cases hg
  | some p =>
    rw [h1] at hg
    cases p with
    | list ps =>
      match ds, rl with
      | [], _ => cases hg
      | _ :: _ :: _, _ => cases hg
      | [y], ⟨v, rr, e1, ry, e2⟩ =>
        have e2 : rr = [] := e2
        subst e2
        subst e1
        have hg : ((toPm μ y).bind fun q => if (SeqAt.shaped (.list ps) && SeqAt.shaped q) = true then (firstP q ps).map fun j => D.int (j : Nat) else none) = some d := hg
        cases h2 : toPm μ y with
        | none => rw [h2] at hg; cases hg
        | some p2 =>
          rw [h2] at hg
          have hg : (if (SeqAt.shaped (.list ps) && SeqAt.shaped p2) = true then (firstP p2 ps).map fun j => D.int (j : Nat) else none) = some d := hg
          split at hg
          · rename_i hs
            rw [Bool.and_eq_true] at hs
            obtain ⟨j, hj, rfl⟩ := Option.map_eq_some_iff.mp hg
            obtain ⟨z, k1, k2, k3⟩ := firstP_spec hj
            have dx' := toPm_ok R rx h1
            have hx : ∃ a, x = .ref a := by
              cases dx' with
              | lst hs ha => exact ⟨_, rfl⟩
            obtain ⟨a, rfl⟩ := hx
            exact ⟨a, v, p2, ps, j, z, rfl, rfl, dx', toPm_ok R ry h2, hs.1, hs.2, k1, k2, k3, q.same R rfl (fun _ e => by cases e)⟩
          · cases hg
    | _ => cases hg⟩
end
/-! ### isinstance(e, (A, B, ..)) -/
def anyT (T : Str → Option Bool) : List D → Option Bool
  | [] => some false
  | .glob y :: ds => (T y).bind fun b => (anyT T ds).map fun r => b || r
  | _ :: _ => none
def gIsT (T : Str → Str → Option Bool) (a d : Addr) (C : Str) : Mem → List D → Option D := fun _ ds => match ds with
  | [.exh b c C' _, .tup (y :: ys)] => if b = a ∧ c = d ∧ C' = C then (anyT (T C) (y :: ys)).map .bl else none
  | _ => none
section
variable {X : Cx} {H0 : Hp} {av θ : List Addr} {sd : Sl} {μ : Mem} {σ : L2.St} {H : Hp}
def rIsTD (K : PySem.W.Frag) (c a dd : Addr) : List V → Hp → VK → Prop := fun xs H Q => ∃ (tp : Addr) (ys : List Addr) (b : Bool) (fs : List (Str × V)), xs = [.ref a, .ref tp] ∧ SqT K H tp (ys.map V.ref) ∧ ExcC K c ∧ PySem.W.kitAny K (.ref c) (ys.map Value.ref) = some b ∧ H dd = some (.xd fs) ∧ Q (.bl b) H
theorem vals_refs : ∀ {ys : List Addr} {us : List Value}, Vals (ys.map V.ref) us → us = ys.map Value.ref
  | [], _, .nil => rfl
  | y :: ys, _, .cons r t => by
    cases r
    rw [vals_refs t]
    rfl
theorem call_isTD {a c dd : Addr} {oe : Obj} {pn : List (Addr × Obj)} (hz : Zc (.ref c) (some dd) oe) (hf : ∃ vs, oe.data = .fields vs) : CallR (X.suite a ((a, oe) :: pn)) (.builtin "isinstance") (rIsTD X.K c a dd) := by
  intro pins s σ H xs us Q I r ⟨tp, ys, b, fs, e1, ht, hC, hk, hd, q⟩
  subst e1
  obtain ⟨u1, u2, rfl, rx, rt⟩ := vals2 r
  cases rx
  cases (show u2 = Value.ref tp from rt)
  obtain ⟨ho, _⟩ := I.pin (a, oe) (List.mem_append.mpr (.inl List.mem_cons_self))
  obtain ⟨vs, hv⟩ := hf
  obtain ⟨mA, hns, _⟩ := (show ObjOk X.prog X.w H s.heap dd (.xd fs) from I.hok dd _ hd)
  obtain ⟨od, ho2, _⟩ := lookIn_ns hns
  have J : PySem.W.InstAt s.heap a oe c (some od) := ⟨ho, hz.1, by unfold PySem.W.notCls; rw [hv] <;> rfl, by rw [hz.2]; exact ho2⟩
  obtain ⟨its, rv, ⟨o, h1, h2, n, h3⟩, _⟩ := I.tuple ht
  have e3 := vals_refs rv
  subst e3
  obtain ⟨oc, od2, dt, sl⟩ := o
  simp only at h2 h3
  subst h2 h3
  exact PySem.W.kia_tup (DLX.kitx hC) I.kIn J h1 hk (fun z => nomatch z) fun tk => ⟨.bl b, H, I.kept (t' := tk) fun _ _ z => z, rfl, q⟩
theorem anyT_ok {K : PySem.W.Frag} {mg : Mg} {T : Str → Str → Option Bool} {T2 : Str → String → Option Bool} (hT : KiT K mg T T2) {C : Str} {c : Addr} (hm : mg C = some (.ref c)) : ∀ {ys : List D} {xs : List V} {b : Bool}, repL K mg H0 av θ H ys xs → anyT (T C) ys = some b →
    ∃ as : List Addr, xs = as.map V.ref ∧ PySem.W.kitAny K (.ref c) (as.map Value.ref) = some b
  | [], xs, b, r, h => by
    have r : xs = [] := r
    subst r
    cases h
    exact ⟨[], rfl, rfl⟩
  | .glob y :: ys, _, b, ⟨x, rr, e, hy, rt⟩, h => by
    subst e
    obtain ⟨ya, ey, my⟩ := hy
    subst ey
    have h : ((T C y).bind fun b => (anyT (T C) ys).map fun r => b || r) = some b := h
    obtain ⟨k, hb, h⟩ := Option.bind_eq_some_iff.mp h
    obtain ⟨r, hr, h⟩ := Option.map_eq_some_iff.mp h
    obtain ⟨as, e1, e2⟩ := anyT_ok hT hm rt hr
    refine ⟨ya :: as, by rw [e1]; rfl, ?_⟩
    show PySem.W.kitAny K (.ref c) (.ref ya :: as.map Value.ref) = some b
    refine kitAny_cons ((hT.1 _ _ _ hb _ hm).2 _ my) (fun z => ?_) fun z => ?_
    · rw [e2, ← h, z, Bool.false_or]
    · rw [← h, z, Bool.true_or]
  | .non :: _, _, _, _, h => by cases h
  | .bl _ :: _, _, _, _, h => by cases h
  | .int _ :: _, _, _, _, h => by cases h
  | .str _ :: _, _, _, _, h => by cases h
  | .tup _ :: _, _, _, _, h => by cases h
  | .lst _ :: _, _, _, _, h => by cases h
  | .lck _ :: _, _, _, _, h => by cases h
  | .fr _ :: _, _, _, _, h => by cases h
  | .new _ :: _, _, _, _, h => by cases h
  | .ref _ :: _, _, _, _, h => by cases h
  | .ty _ :: _, _, _, _, h => by cases h
  | .obj _ _ :: _, _, _, _, h => by cases h
  | .bor _ _ :: _, _, _, _, h => by cases h
  | .exh _ _ _ _ :: _, _, _, _, h => by cases h
theorem cd_isT {T : Str → Str → Option Bool} {T2 : Str → String → Option Bool} (hT : KiT X.K X.mg T T2) {a c dd : Addr} {oe : Obj} {e : Exn} {pn : List (Addr × Obj)} (hm : X.mg e.cls = some (.ref c)) (hz : Zc (.ref c) (some dd) oe) (hf : ∃ vs, oe.data = .fields vs) :
    CallD (X.suite a ((a, oe) :: pn)) (.builtin "isinstance") (gIsT T a dd e.cls) := fun H0 => ⟨_, call_isTD hz hf, fun av θ sd μ σ H ds xs d Q R rx hg q => by
  unfold gIsT at hg
  split at hg
  · split at hg
    · rename_i b c' C' fs y ys h
      obtain ⟨rfl, rfl, rfl⟩ := h
      obtain ⟨k, hk, hd⟩ := Option.map_eq_some_iff.mp hg
      subst hd
      have hC : ExcC X.K c := by
        cases y with
        | glob y =>
          have hk : ((T e.cls y).bind fun b => (anyT (T e.cls) ys).map fun r => b || r) = some k := hk
          obtain ⟨k0, hb, _⟩ := Option.bind_eq_some_iff.mp hk
          exact (hT.1 _ _ _ hb _ hm).1
        | _ => cases hk
      obtain ⟨x, r1, e1, hx, x2, r2, e2, hy, e3⟩ := rx
      subst e1 e2
      have e3 : r2 = [] := e3
      subst e3
      obtain ⟨c2, vs, ev, n1, n2, hc2, t, r⟩ := hx
      obtain ⟨tp, zs, et, tt, rt⟩ := hy
      subst ev et
      obtain ⟨as, e4, e5⟩ := anyT_ok hT hm rt hk
      subst e4
      exact ⟨tp, as, k, vs, rfl, tt.sq, hC, e5, t, q.same R rfl (fun _ z => by cases z)⟩
    · cases hg
  · cases hg⟩
end
/-! ### an __init__ by the head's facts -/
section
variable {P : Program} {w : World} {K : PySem.W.Frag} {mg : Mg} {base : Heap}
def BodyI (P : Program) (w : World) (K : PySem.W.Frag) (mg : Mg) (base : Heap) (k : Nat) (N : List Str) (qual : Str) (st : Stmt) (body : SS) : Prop :=
  ∀ (f : Addr) (cdv : Value) (A : Around) (outer : List Env) (s : Shared) (Hs H : Hp) (E : XK), Room k (A.deeper (envOfC qual (defScope st) s.heap.objs.size f cdv)) →
    PSs (cxOf (L2.CX P w) P w K mg base N qual (defScope st) f cdv A outer s Hs E) (defBody st) (tS K mg H (fun cls d _ H' => E cls d H') body)
abbrev FnM (K : PySem.W.Frag) (x qual : Str) (st : Stmt) (f : Addr) (fd : FuncData) : Prop := FunD K x qual (defArgs st) (defBody st) (defScope st) [] [] f fd
theorem mkD_mk {x qual : Str} {st : Stmt} {fd : FuncData} {N ps : List Str} {k np : Nat} {body : SS} (hm : mg x = some (.ref (He.ga K x))) (M : Mk K (He.ga K x) (He.ma K (He.ga K x) "__init__")) (F : FnM K "__init__" qual st (He.ma K (He.ga K x) "__init__") fd)
    (S : FnScope N ps (defScope st)) (hbody : BodyI P w K mg base k N qual st body) (hb : Binds K fd ps []) (hn : ps.length = np + 1) : MkD P w K mg base x (k + 1) np (runI N.length x body) := by
  refine ⟨_, _, fd, ps, hm, M, hb, hn, ?_⟩
  obtain ⟨oc, od, dV, kV, doc, pm, an, cdv, ct, osl, rfl, lk, hcd, hD, _⟩ := F.ex
  rcases hD with ⟨_, rfl⟩ | ⟨e, _⟩
  · exact init_ok ⟨⟨oc, od, kV, doc, pm, an, cdv, ct, osl, rfl, lk, hcd⟩, F.kp⟩ S hn fun cdv A outer s Hs H1 E hr => hbody _ cdv A outer s Hs H1 E hr
  · exact absurd rfl e
end
/-! ### tables, looked at in the head -/
section
open He
def fldB (K : PySem.W.Frag) (L : List (Str × Str)) : Bool := L.all fun t => gloB K t.1 && ((Fa.cls t.1).ok K && (Fa.noat t.1 t.2).ok K)
def cvB (K : PySem.W.Frag) (L : List ((Str × Str) × Int)) : Bool := L.all fun t => gloB K t.1.1 && (match PySem.W.typeIn K (.ref (ga K t.1.1)) with
  | some mc => PySem.W.readsIn K (ga K t.1.1) mc && (decide (PySem.W.specialIn K (.ref (ga K t.1.1)) "__getattribute__" = some (some (.builtin "type.__getattribute__"))) && (match PySem.W.findCls K (.ref (ga K t.1.1)) mc t.1.2 with
    | some (.val (.int j _)) => decide (j = t.2)
    | _ => false))
  | none => false)
variable {K : PySem.W.Frag} {h : Heap} {mg : Mg}
theorem fldT_of (X : K.In h) (G : h.Ns mainGlobals mg) {L : List (Str × Str)} (e : fldB K L = true) : FldT K mg (tabX L) := fun x f q c hc => by
  have m := List.all_eq_true.mp e _ (of_decide_eq_true q)
  obtain ⟨m1, m⟩ := ba m
  obtain ⟨m2, m3⟩ := ba m
  have g1 := gloB_ok X G m1
  rw [g1] at hc
  cases hc
  exact ⟨cls_ok m2, noat_ok m3⟩
def tabI (L : List ((Str × Str) × Int)) : Str → Str → Option Int := fun x y => L.lookup (x, y)
theorem cvT_of (X : K.In h) (G : h.Ns mainGlobals mg) {L : List ((Str × Str) × Int)} (e : cvB K L = true) : CvT K mg (tabI L) := fun x f i q => by
  have m := List.all_eq_true.mp e _ (look_mem q)
  obtain ⟨m1, m⟩ := ba m
  have g1 := gloB_ok X G m1
  split at m
  · rename_i mc hmc
    obtain ⟨m2, m⟩ := ba m
    obtain ⟨m3, m4⟩ := ba m
    split at m4
    · rename_i j t hj
      have ej : j = i := of_decide_eq_true m4
      subst ej
      exact ⟨_, mc, .int j t, g1, ⟨m2, of_decide_eq_true m3⟩, ⟨hj, t, rfl⟩⟩
    · cases m4
  · cases m
end
end DL
set_option Elab.async false
set_option linter.all false
set_option maxRecDepth 100000
set_option maxHeartbeats 1000000
/-! DM4: a, b = x, y. -/
namespace DL
open PySem PySem.Spec PyProof.Rows L2 PySem.W
section
variable {X : Cx} {H0 : Hp} {W : WX} {av θ : List Addr} {sd : Sl} {μ : Mem} {σ : L2.St} {H : Hp}
def sPar (i j : Nat) (g : EA) : SS := fun sd μ => match g sd μ with
  | none => none
  | some (.error e, μ1) => some (.exc e, sd, μ1)
  | some (.ok ds, μ1) => (two ds).bind fun z => if notNew z.1 = true ∧ notNew z.2 = true then some (.nx, (sd.set i (some z.1)).set j (some z.2), μ1) else none
theorem ps_parD (i j : Nat) {x y : Str} {a b : Expr} {g : EA} {px py pt pos : Pos} {kt k2 pt2} (hc : X.calm = true) (hN : X.N.Nodup) (ha : PA X [a, b] (tA X.K X.mg H0 W g))
    (hi : X.N[i]? = some x := by rfl) (hj : X.N[j]? = some y := by rfl) (hij : i ≠ j := by decide)
    (hx : X.env.scope.names.lookup x = some .local := by rfl) (hy : X.env.scope.names.lookup y = some .local := by rfl)
    (hw : swappedStores [.Tuple [.Name x px, .Name y py] kt pt] (.Tuple [a, b] k2 pt2) X.env = pure (some [x, y]) := by rfl)
    (hs : swapsWithSole [.Tuple [.Name x px, .Name y py] kt pt] (.Tuple [a, b] k2 pt2) pos.line X.env = pure false := by rfl) :
    PS X (.Assign [.Tuple [.Name x px, .Name y py] kt pt] (.Tuple [a, b] k2 pt2) pos) (tS X.K X.mg H0 W (sPar i j g)) := by
  refine wkS (L2.ps_par hc hN hi hj hij hx hy ha hw hs) fun E σ H ⟨av, θ, sd, μ, R, P⟩ => ⟨av, θ, sd, μ, R, ?_⟩
  unfold sPar at P
  match h : g sd μ, P with
  | none, P => exact P.elim
  | some (.error e, μ1), P => exact fun cls dd θ' H' g R r => P cls dd σ θ' H' g R r
  | some (.ok ds, μ1), P =>
    intro vs θ1 H1 nv g1 R1 r1
    have P : PostS X.K X.mg H0 W av θ H E ((two ds).bind fun z => if notNew z.1 = true ∧ notNew z.2 = true then some (.nx, (sd.set i (some z.1)).set j (some z.2), μ1) else none) := P
    cases q : two ds with
    | none => rw [q] at P; exact P.elim
    | some z =>
      rw [q] at P
      obtain ⟨d, e⟩ := z
      have P : PostS X.K X.mg H0 W av θ H E (if notNew d = true ∧ notNew e = true then some (.nx, (sd.set i (some d)).set j (some e), μ1) else none) := P
      by_cases c : notNew d = true ∧ notNew e = true
      case neg => rw [if_neg c] at P; exact P.elim
      rw [if_pos c] at P
      obtain ⟨v, w, e1, rv, rw'⟩ := two_rep r1 q
      exact ⟨v, w, e1, P _ θ1 H1 g1 ((R1.plain.set i rv).set j rw')⟩
end
end DL
set_option Elab.async false
set_option linter.all false
set_option maxRecDepth 100000
set_option maxHeartbeats 1000000
/-! DM5: the mirrors of instances, sorted, index worked out; data of a kind. -/
namespace DL
open PySem PySem.Spec PyProof.Rows L2 PySem.W
@[simp] theorem eFld_e (T : Str → Str → Bool) (f : Str) (fo : EE) (sd : Sl) (μ : Mem) : eFld T f fo sd μ = match fo sd μ with
  | none => none
  | some (.error e, μ1) => some (.error e, μ1)
  | some (.ok x, μ1) => match (insD μ1 x).bind (getF T f) with
    | none => none
    | some d => some (.ok d, μ1) := by
  unfold eFld bE
  rcases fo sd μ with _ | ⟨_ | x, m⟩ <;> try rfl
  dsimp only
  cases (insD m x).bind (getF T f) <;> rfl
@[simp] theorem eCv_e (T : Str → Str → Option Int) (f : Str) (C : Str) (sd : Sl) (μ : Mem) : eCv T f (eC (.glob C)) sd μ = match T C f with
  | none => none
  | some i => some (.ok (.int i), μ) := by
  unfold eCv bE eC
  dsimp only
  cases T C f <;> rfl
@[simp] theorem eFrz_e (f : EE) (sd : Sl) (μ : Mem) : eFrz f sd μ = match f sd μ with
  | none => none
  | some (.error e, μ1) => some (.error e, μ1)
  | some (.ok d, μ1) => some (.ok (frzD d), μ1) := by
  unfold eFrz bE
  rcases f sd μ with _ | ⟨_ | x, m⟩ <;> rfl
@[simp] theorem sPar_e (i j : Nat) (g : EA) (sd : Sl) (μ : Mem) : sPar i j g sd μ = match g sd μ with
  | none => none
  | some (.error e, μ1) => some (.exc e, sd, μ1)
  | some (.ok ds, μ1) => (two ds).bind fun z => if notNew z.1 = true ∧ notNew z.2 = true then some (.nx, (sd.set i (some z.1)).set j (some z.2), μ1) else none := rfl
@[simp] theorem two_e (x y : D) : two [x, y] = some (x, y) := rfl
@[simp] theorem sSetF_e (T : Str → Str → Bool) (f : Str) (fo fv : EE) (sd : Sl) (μ : Mem) : sSetF T f fo fv sd μ = match fv sd μ with
  | none => none
  | some (.error e, μ1) => some (.exc e, sd, μ1)
  | some (.ok y, μ1) => match fo sd μ1 with
    | none => none
    | some (.error e, μ2) => some (.exc e, sd, μ2)
    | some (.ok x, μ2) => match setF T f μ2 x y with
      | none => none
      | some μ3 => some (.nx, sd, μ3) := by
  unfold sSetF bS
  rcases fv sd μ with _ | ⟨_ | y, m⟩ <;> try rfl
  dsimp only
  rcases fo sd m with _ | ⟨_ | x, m2⟩ <;> try rfl
  dsimp only
  cases setF T f m2 x y <;> rfl
@[simp] theorem eMl_e (g : Mem → D → List D → Option D) (f : EE) (a : EA) (sd : Sl) (μ : Mem) : eMl g f a sd μ = match f sd μ with
  | none => none
  | some (.error e, μ1) => some (.error e, μ1)
  | some (.ok x, μ1) => match isLst μ1 x with
    | none => none
    | some _ => match a sd μ1 with
      | none => none
      | some (.error e, μ2) => some (.error e, μ2)
      | some (.ok ds, μ2) => match g μ2 x ds with
        | none => none
        | some d => some (.ok d, μ2) := by
  unfold eMl bE
  rcases f sd μ with _ | ⟨_ | x, m⟩ <;> try rfl
  dsimp only
  cases isLst m x <;> try rfl
  dsimp only [Option.bind_some]
  rcases a sd m with _ | ⟨_ | ds, m2⟩ <;> try rfl
  dsimp only
  cases g m2 x ds <;> rfl
@[simp] theorem eCallN_e (m : Mir) (np : Nat) (a : EA) (sd : Sl) (μ : Mem) : eCallN m np a sd μ = match a sd μ with
  | none => none
  | some (.error e, μ1) => some (.error e, μ1)
  | some (.ok ds, μ1) => match argsM μ1 ds with
    | none => none
    | some ds' => if ds'.length = np then match m ds' with
        | none => none
        | some (.ok d) => some (.ok d, μ1)
        | some (.error e) => some (.error e, μ1)
      else none := by
  unfold eCallN bE
  rcases a sd μ with _ | ⟨_ | ds, m2⟩ <;> try rfl
  dsimp only
  cases argsM m2 ds <;> rfl
@[simp] theorem iEnum_e (f : EA) (sd : Sl) (μ : Mem) : iEnumD f sd μ = match f sd μ with
  | none => none
  | some (.error e, μ1) => some (.error e, μ1)
  | some (.ok ds, μ1) => (one ds).bind fun d => (srcD μ1 d).bind fun z => if isTupD d = false then some (.ok (enumD z.1, z.2), μ1) else none := by
  unfold iEnumD bE
  rcases f sd μ with _ | ⟨_ | x, m⟩ <;> rfl
@[simp] theorem iRev_e (f : EE) (sd : Sl) (μ : Mem) : iRevD f sd μ = match f sd μ with
  | none => none
  | some (.error e, μ1) => some (.error e, μ1)
  | some (.ok d, μ1) => (srcD μ1 d).map fun z => (.ok (z.1.reverse, z.2), μ1) := by
  unfold iRevD bE
  rcases f sd μ with _ | ⟨_ | x, m⟩ <;> rfl
@[simp] theorem intA (μ : Mem) (i : Int) : gIntA μ [.int i] = some (.int i) := rfl
theorem mulA {μ : Mem} {i j : Int} (h : CMulW i j) : gMulA μ (.int i) (.int j) = some (.int (i * j)) := by
  unfold gMulA
  rw [DL.mul_int h, Option.some_or]
/-! ### data of a kind -/
class En (α : Type) where
  e : α → D
  p : α → PyData
  k : Nat
  toP : ∀ a, toP (e a) = some (p a)
  lay : ∀ a, (p a).canLay0 = true
  dep : ∀ a, (p a).depth ≤ k
  eqv : ∀ a b, (PyData.eqv (p a) (p b) = true ↔ a = b)
  okA : ∀ a, okA (e a) = true
  plain : ∀ a, plain (e a) = true
  nn : ∀ a, notNew (e a) = true
  nr : ∀ a n, e a ≠ .ref n
open En (e)
variable {α β : Type}
theorem En.toPm [En α] (μ : Mem) (a : α) : toPm μ (e a) = some (En.p a) := by
  have h := En.toP a
  have n := En.nr a
  unfold DL.toPm
  split
  · exact absurd ‹e a = _› (n _)
  · exact h
instance : En Int where
  e := .int
  p := .int
  k := 0
  toP := fun _ => rfl
  lay := fun _ => rfl
  dep := fun _ => Nat.le_refl _
  eqv := fun a b => by simp [PyData.eqv]
  okA := fun _ => rfl
  plain := fun _ => rfl
  nn := fun _ => rfl
  nr := fun _ _ h => by cases h
instance [En α] [En β] : En (α × β) where
  e := fun a => .tup [e a.1, e a.2]
  p := fun a => .tuple [En.p a.1, En.p a.2]
  k := max (En.k α) (En.k β) + 1
  toP := fun a => by
    have h1 := En.toP a.1
    have h2 := En.toP a.2
    simp [DL.toP, toPs, h1, h2]
  lay := fun a => by
    have h1 := En.lay a.1
    have h2 := En.lay a.2
    simp [PyData.canLay0, PyData.canLayAll0, h1, h2]
  dep := fun a => by
    have h1 := En.dep a.1
    have h2 := En.dep a.2
    simp only [PyData.depth, PyData.depthAll]
    omega
  eqv := fun a b => by
    obtain ⟨a1, a2⟩ := a
    obtain ⟨b1, b2⟩ := b
    have h1 := En.eqv a1 b1
    have h2 := En.eqv a2 b2
    simp only [PyData.eqv, PyData.eqvAll, Bool.and_true, Bool.and_eq_true, h1, h2, Prod.mk.injEq]
  okA := fun a => by
    have h1 := En.okA a.1
    have h2 := En.okA a.2
    simp [DL.okA, okAL, h1, h2]
  plain := fun a => by
    have h1 := En.plain a.1
    have h2 := En.plain a.2
    simp [DL.plain, plainL, h1, h2]
  nn := fun _ => rfl
  nr := fun _ _ h => by cases h
theorem En.toPs [En α] : ∀ l : List α, toPs (l.map e) = some (l.map En.p)
  | [] => rfl
  | a :: l => by
    have h1 := En.toP a
    have h2 := En.toPs l
    simp [DL.toPs, h1, h2]
theorem En.lays [En α] : ∀ l : List α, PyData.canLayAll0 (l.map En.p) = true
  | [] => rfl
  | a :: l => by
    have h1 := En.lay a
    have h2 := En.lays l
    simp [PyData.canLayAll0, h1, h2]
theorem En.deps [En α] : ∀ l : List α, PyData.depthAll (l.map En.p) ≤ En.k α
  | [] => Nat.zero_le _
  | a :: l => by
    have h1 := En.dep a
    have h2 := En.deps l
    simp only [List.map_cons, PyData.depthAll]
    omega
theorem En.eqvs [En α] : ∀ l m : List α, (PyData.eqvAll (l.map En.p) (m.map En.p) = true ↔ l = m)
  | [], [] => by simp [PyData.eqvAll]
  | [], b :: m => by simp [PyData.eqvAll]
  | a :: l, [] => by simp [PyData.eqvAll]
  | a :: l, b :: m => by
    have h1 := En.eqv a b
    have h2 := En.eqvs l m
    simp [PyData.eqvAll, h1, h2]
theorem En.okAL [En α] (l : List α) : okAL (l.map e) = true := okAL_map En.okA l
theorem En.plainL [En α] (l : List α) : plainL (l.map e) = true := plainL_map En.plain l
instance [En α] : En (List α) where
  e := fun l => .tup (l.map e)
  p := fun l => .tuple (l.map En.p)
  k := En.k α + 1
  toP := fun l => by
    have h := En.toPs l
    simp [DL.toP, h]
  lay := fun l => by simpa [PyData.canLay0] using En.lays l
  dep := fun l => by
    have := En.deps l
    simp only [PyData.depth]
    omega
  eqv := fun l m => by simpa [PyData.eqv] using En.eqvs l m
  okA := fun l => En.okAL l
  plain := fun l => En.plainL l
  nn := fun _ => rfl
  nr := fun _ _ h => by cases h
theorem En.shL [En α] (h : En.k α ≤ 60 := by decide) (l : List α) : SeqAt.shaped (.list (l.map En.p)) = true := by
  have h1 := En.lays l
  have h2 := En.deps l
  unfold SeqAt.shaped
  rw [Bool.and_eq_true, decide_eq_true_eq]
  exact ⟨by simpa [PyData.canLay0] using h1, by simp only [PyData.depth]; omega⟩
theorem En.shT [En α] (h : En.k α ≤ 60 := by decide) (l : List α) : SeqAt.shaped (.tuple (l.map En.p)) = true := by
  have h1 := En.lays l
  have h2 := En.deps l
  unfold SeqAt.shaped
  rw [Bool.and_eq_true, decide_eq_true_eq]
  exact ⟨by simpa [PyData.canLay0] using h1, by simp only [PyData.depth]; omega⟩
theorem En.sh [En α] (h : En.k α ≤ 60 := by decide) (a : α) : SeqAt.shaped (En.p a) = true := by
  have h1 := En.lay a
  have h2 := En.dep a
  unfold SeqAt.shaped
  rw [Bool.and_eq_true, decide_eq_true_eq]
  exact ⟨h1, by omega⟩
theorem En.eqB [En α] (a b : α) [Decidable (a = b)] : PyData.eqv (En.p a) (En.p b) = decide (a = b) := by
  rw [Bool.eq_iff_iff, decide_eq_true_eq]
  exact En.eqv a b
theorem En.any [En α] (a : α) (l : List α) [Decidable (a ∈ l)] : ((l.map En.p).any fun z => PyData.eqv z (En.p a)) = decide (a ∈ l) := by
  rw [Bool.eq_iff_iff, List.any_eq_true, decide_eq_true_eq]
  constructor
  · rintro ⟨z, hz, h⟩
    obtain ⟨b, hb, rfl⟩ := List.mem_map.mp hz
    rw [(En.eqv b a).mp h] at hb
    exact hb
  · intro h
    exact ⟨En.p a, List.mem_map.mpr ⟨a, h, rfl⟩, (En.eqv a a).mpr rfl⟩
/-- x == y -/
theorem eq_en [En α] {μ : Mem} (n : Bool) (a b : α) [Decidable (a = b)] (h : En.k α ≤ 60 := by decide) : gEqD n μ (e a) (e b) = some (.bl (if n then !decide (a = b) else decide (a = b))) := by
  rw [eq_of (En.toPm μ a) (En.toPm μ b) (En.sh h a) (En.sh h b), En.eqB]
theorem inS_none [En α] (n : Bool) (μ : Mem) (a : α) {y : D} (h : y = .tup [] ∨ ∃ z, y = z) (hs : ∀ z, y ≠ .str z) : gInS n μ (e a) y = none := by
  unfold gInS
  split <;> first | rfl | (exfalso; exact hs _ rfl)
/-- x in a tuple -/
theorem in_tup [En α] {μ : Mem} (n : Bool) (a : α) (l : List α) [Decidable (a ∈ l)] (h : En.k α ≤ 60 := by decide) : gInA n μ (e a) (.tup (l.map e)) = some (.bl (if n then !decide (a ∈ l) else decide (a ∈ l))) := by
  unfold gInA
  rw [inS_none n μ a (.inr ⟨_, rfl⟩) (fun z q => by cases q), Option.none_or]
  unfold gInD
  have h2 : toPm μ (.tup (l.map e)) = some (.tuple (l.map En.p)) := En.toPm μ l
  rw [En.toPm μ a, h2]
  simp only [Option.bind_some, En.sh h a, En.shT h l, Bool.and_self, if_true, En.any]
/-- x in a list -/
theorem in_lst [En α] {μ : Mem} {y : D} (n : Bool) (a : α) (l : List α) [Decidable (a ∈ l)] (hy : toPm μ y = some (.list (l.map En.p))) (hs : ∀ z, y ≠ .str z) (h : En.k α ≤ 60 := by decide) : gInA n μ (e a) y = some (.bl (if n then !decide (a ∈ l) else decide (a ∈ l))) := by
  unfold gInA
  rw [inS_none n μ a (.inr ⟨_, rfl⟩) hs, Option.none_or]
  unfold gInD
  rw [En.toPm μ a, hy]
  simp only [Option.bind_some, En.sh h a, En.shL h l, Bool.and_self, if_true, En.any]
theorem toPm_new [En α] (μ : Mem) (l : List α) : toPm μ (.new (l.map e)) = some (.list (l.map En.p)) := by
  have h := En.toPs l
  simp [toPm, DL.toP, h]
theorem toPm_lst [En α] (μ : Mem) (l : List α) : toPm μ (.lst (l.map e)) = some (.list (l.map En.p)) := by
  have h := En.toPs l
  simp [toPm, DL.toP, h]
theorem toPm_ref [En α] {μ : Mem} {n : Nat} (l : List α) (hm : μ[n]? = some (.lst (l.map e))) : toPm μ (.ref n) = some (.list (l.map En.p)) := by
  have h := En.toPs l
  simp [toPm, hm, h]
/-- xs.index(x) -/
theorem index_en [En α] {μ : Mem} {y : D} (a : α) (l : List α) (hy : toPm μ y = some (.list (l.map En.p))) (ha : a ∈ l) (h : En.k α ≤ 60 := by decide) : ∃ j : Nat, gIndex μ y [e a] = some (.int j) ∧ l[j]? = some a := by
  have key : ∀ l : List α, a ∈ l → ∃ j, firstP (En.p a) (l.map En.p) = some j ∧ l[j]? = some a := by
    intro l
    induction l with
    | nil => intro h; cases h
    | cons b l ih =>
      intro hm
      rw [List.map_cons]
      unfold firstP
      rcases Classical.em (b = a) with q | q
      · rw [if_pos ((En.eqv b a).mpr q)]
        exact ⟨0, rfl, by rw [q]; rfl⟩
      · rw [if_neg (fun z => q ((En.eqv b a).mp z))]
        obtain ⟨j, h1, h2⟩ := ih ((List.mem_cons.mp hm).resolve_left fun z => q z.symm)
        exact ⟨j + 1, by rw [h1]; rfl, by simpa using h2⟩
  obtain ⟨j, h1, h2⟩ := key l ha
  refine ⟨j, ?_, h2⟩
  unfold gIndex
  rw [hy]
  simp only [Option.bind_some, En.toPm μ a, En.shL h l, En.sh h a, Bool.and_self, if_true, h1, Option.map_some]
/-! ### pairs of numbers, rows: their order -/
abbrev Wd : Type := Int × Int
abbrev Rw : Type := List Wd
theorem dat_wd (a : Wd) : datD (e a) = .tuple [.int a.1, .int a.2] := rfl
theorem leD_wd (a b : Wd) : leD (e a) (e b) = decide (a.1 < b.1 ∨ (a.1 = b.1 ∧ a.2 ≤ b.2)) := by
  have h := congrFun (congrFun (dataLe_ii (β := Wd) (fun z => z.1) (fun z => z.2)) a) b
  exact h
theorem key_wd (a : Wd) : (keyD (e a)).isSome = true := rfl
theorem alike_wd (a b : Wd) : alike (datD (e a)) (datD (e b)) = true := by
  simp [dat_wd, alike, alikeAll]
theorem datDs_map : ∀ ds : List D, datDs ds = ds.map datD
  | [] => rfl
  | d :: ds => by rw [datDs, datDs_map ds]; rfl
theorem keyDs_some : ∀ ds : List D, (∀ d ∈ ds, (keyD d).isSome = true) → (keyDs ds).isSome = true
  | [], _ => rfl
  | d :: ds, h => by
    obtain ⟨k, hk⟩ := Option.isSome_iff_exists.mp (h d List.mem_cons_self)
    obtain ⟨ks, hks⟩ := Option.isSome_iff_exists.mp (keyDs_some ds fun x hx => h x (List.mem_cons_of_mem _ hx))
    simp [keyDs, hk, hks]
theorem key_row (r : Rw) : (keyD (e r)).isSome = true := by
  have h := keyDs_some (r.map e) fun d hd => by
    obtain ⟨a, _, rfl⟩ := List.mem_map.mp hd
    exact key_wd a
  show (Option.map NestedKey.tup (keyDs (r.map e))).isSome = true
  simpa using h
theorem alikeAll_of : ∀ xs ys : List PyData, (∀ x ∈ xs, ∀ y ∈ ys, alike x y = true) → alikeAll xs ys = true
  | [], _, _ => by simp [alikeAll]
  | _ :: _, [], _ => by simp [alikeAll]
  | x :: xs, y :: ys, h => by
    rw [alikeAll, Bool.and_eq_true]
    exact ⟨h x List.mem_cons_self y List.mem_cons_self, alikeAll_of xs ys fun a ha b hb => h a (List.mem_cons_of_mem _ ha) b (List.mem_cons_of_mem _ hb)⟩
theorem dat_row (r : Rw) : datD (e r) = .tuple (r.map fun a => datD (e a)) := by
  show PyData.tuple (datDs (r.map e)) = _
  rw [datDs_map, List.map_map]
  rfl
theorem alike_row (r s : Rw) : alike (datD (e r)) (datD (e s)) = true := by
  rw [dat_row, dat_row, alike]
  refine alikeAll_of _ _ fun x hx y hy => ?_
  obtain ⟨a, _, rfl⟩ := List.mem_map.mp hx
  obtain ⟨b, _, rfl⟩ := List.mem_map.mp hy
  exact alike_wd a b
theorem dep_wd (a : Wd) : (datD (e a)).depth ≤ 1 := by simp [dat_wd, PyData.depth, PyData.depthAll]
theorem dep_row (r : Rw) : (datD (e r)).depth ≤ 2 := by
  rw [dat_row]
  have key : ∀ r : Rw, PyData.depthAll (r.map fun a => datD (e a)) ≤ 1 := by
    intro r
    induction r with
    | nil => exact Nat.zero_le _
    | cons a r ih =>
      have := dep_wd a
      simp only [List.map_cons, PyData.depthAll]
      omega
  have := key r
  simp only [PyData.depth]
  omega
theorem AlikeL.wds (l : List Wd) : AlikeL (l.map e) := fun d hd => by
  obtain ⟨a, _, rfl⟩ := List.mem_map.mp hd
  refine ⟨key_wd a, Nat.le_trans (dep_wd a) (by decide), fun f hf => ?_⟩
  obtain ⟨b, _, rfl⟩ := List.mem_map.mp hf
  exact alike_wd a b
theorem AlikeL.rows (l : List Rw) : AlikeL (l.map e) := fun d hd => by
  obtain ⟨a, _, rfl⟩ := List.mem_map.mp hd
  refine ⟨key_row a, Nat.le_trans (dep_row a) (by decide), fun f hf => ?_⟩
  obtain ⟨b, _, rfl⟩ := List.mem_map.mp hf
  exact alike_row a b
def leE {α : Type} [En α] (a b : α) : Bool := leD (e a) (e b)
theorem sortD_map [En α] (l : List α) : sortD (l.map e) = (l.mergeSort leE).map e := by
  unfold sortD
  exact (List.map_mergeSort (r := leE) (s := leD) (f := e) (l := l) fun _ _ _ _ => rfl).symm
theorem leE_total [En α] : TotalLe (leE : α → α → Bool) := ⟨fun a b c h1 h2 => leD_total.trans _ _ _ h1 h2, fun a b => leD_total.total _ _⟩
theorem sort_wds {μ : Mem} {x : D} (l : List Wd) (h : lsAny μ x = some (l.map e)) : gSort μ [x] = some (.new ((l.mergeSort leE).map e)) := by
  show g1Sort μ x = _
  unfold g1Sort
  rw [h, Option.bind_some, when_t ⟨AlikeL.wds l, .inl fun d hd => by
    obtain ⟨a, _, rfl⟩ := List.mem_map.mp hd
    exact ⟨_, rfl⟩⟩, sortD_map]
theorem sort_rows {μ : Mem} {x : D} (l : List Rw) (h : lsAny μ x = some (l.map e)) : gSort μ [x] = some (.new ((l.mergeSort leE).map e)) := by
  show g1Sort μ x = _
  unfold g1Sort
  rw [h, Option.bind_some, when_t ⟨AlikeL.rows l, .inl fun d hd => by
    obtain ⟨a, _, rfl⟩ := List.mem_map.mp hd
    exact ⟨_, rfl⟩⟩, sortD_map]
theorem leE_row_anti {r s : Rw} (h1 : leE r s = true) (h2 : leE s r = true) : r = s := by
  have h : (e r : D) = e s := leD_anti (key_row r) (key_row s) (alike_row r s) h1 h2
  have h3 := En.toP r
  rw [h, En.toP s] at h3
  exact ((En.eqv s r).mp (by rw [Option.some.inj h3]; exact (En.eqv r r).mpr rfl)).symm
/-- rows in strict order are their own sorted set -/
theorem onceD_rows : ∀ {l : List Rw}, l.Nodup → onceD (l.map e) = l.map e
  | [], _ => rfl
  | r :: l, h => by
    obtain ⟨h1, h2⟩ := List.nodup_cons.mp h
    rw [List.map_cons]
    unfold onceD
    rw [if_neg ?_, onceD_rows h2]
    intro q
    obtain ⟨d, hd, z⟩ := List.any_eq_true.mp q
    obtain ⟨s, hs, rfl⟩ := List.mem_map.mp hd
    unfold sameD at z
    rw [Bool.and_eq_true] at z
    rw [leE_row_anti z.1 z.2] at h1
    exact h1 hs
theorem sortSet_rows {μ : Mem} {x : D} (l : List Rw) (h : lsAny μ x = some (l.map e)) (hp : l.Pairwise fun a b => leE a b = true) (hn : l.Nodup) (hl : l.length < 300) : gSortSet μ [x] = some (.new (l.map e)) := by
  show g1SortSet μ x = _
  unfold g1SortSet
  rw [h, Option.bind_some, when_t ⟨AlikeL.rows l, (fun d hd => by
    obtain ⟨a, _, rfl⟩ := List.mem_map.mp hd
    exact ⟨_, rfl⟩), (fun d hd => by
    obtain ⟨a, _, rfl⟩ := List.mem_map.mp hd
    exact Nat.le_trans (dep_row a) (by decide)), by rw [List.length_map]; exact hl⟩, onceD_rows hn, sortD_map, List.mergeSort_of_pairwise hp]
end DL
set_option Elab.async false
set_option linter.all false
set_option maxRecDepth 100000
/-! DM6: slots that hold opaque data, for simp. -/
namespace DL
open PySem PySem.Spec PyProof.Rows L2 PySem.W
theorem eV_n (i : Nat) (sd : Sl) (μ : Mem) : eV i sd μ = match sd[i]? with
  | some (some d) => if notNew d = true then some (.ok d, μ) else none
  | _ => none := by
  unfold eV
  rcases sd[i]? with _ | _ | d <;> try rfl
  cases d <;> rfl
def ownR (d : D) (μ : Mem) : R3 D := match d with
  | .new ds => some (.ok (.ref μ.length), μ ++ [.lst ds])
  | d => some (.ok d, μ)
@[simp] theorem ownR_new (ds : List D) (μ : Mem) : ownR (.new ds) μ = some (.ok (.ref μ.length), μ ++ [.lst ds]) := rfl
theorem eOwn_n (f : EE) (sd : Sl) (μ : Mem) : eOwn f sd μ = match f sd μ with
  | none => none
  | some (.error e, μ1) => some (.error e, μ1)
  | some (.ok d, μ1) => if notNew d = true then some (.ok d, μ1) else ownR d μ1 := by
  unfold eOwn
  rcases f sd μ with _ | ⟨_ | d, m⟩ <;> try rfl
  cases d <;> rfl
theorem gD_n (i : Nat) (sd : Sl) (μ : Mem) (d : D) : gD i sd μ d = if notNew d = true then some (sd.set i (some d), μ) else none := by
  cases d <;> rfl
@[simp] theorem nn_non : notNew .non = true := rfl
@[simp] theorem nn_bl (b : Bool) : notNew (.bl b) = true := rfl
@[simp] theorem nn_int (i : Int) : notNew (.int i) = true := rfl
@[simp] theorem nn_str (i : Str) : notNew (.str i) = true := rfl
@[simp] theorem nn_tup (i : List D) : notNew (.tup i) = true := rfl
@[simp] theorem nn_lst (i : List D) : notNew (.lst i) = true := rfl
@[simp] theorem nn_lck (i : List D) : notNew (.lck i) = true := rfl
@[simp] theorem nn_fr (i : List D) : notNew (.fr i) = true := rfl
@[simp] theorem nn_new (i : List D) : notNew (.new i) = false := rfl
@[simp] theorem nn_ref (i : Nat) : notNew (.ref i) = true := rfl
@[simp] theorem nn_glob (i : Str) : notNew (.glob i) = true := rfl
@[simp] theorem nn_ty (i : String) : notNew (.ty i) = true := rfl
@[simp] theorem nn_obj (C : Str) (fs : List (Str × D)) : notNew (.obj C fs) = true := rfl
@[simp] theorem nn_bor (C : Str) (fs : List (Str × D)) : notNew (.bor C fs) = true := rfl
@[simp] theorem nn_exh (a d : Addr) (C : Str) (fs : List (Str × D)) : notNew (.exh a d C fs) = true := rfl
end DL
set_option Elab.async false
set_option linter.all false
set_option maxRecDepth 100000
set_option maxHeartbeats 4000000
namespace LK
open PySem PySem.Spec PyProof.Rows L2 DL
def top (i : Nat) : Stmt := PySem.Challenge.pw_liftedliars_k13_line_trees_judged.main.body.getD i (.Pass ⟨0, 0, 0, 0⟩)
def inner (i j : Nat) : Stmt := match top i with
  | .ClassDef _ _ _ body _ _ _ _ _ _ _ => body.getD j (.Pass ⟨0, 0, 0, 0⟩)
  | _ => .Pass ⟨0, 0, 0, 0⟩
def fuel : Nat := 1000000
theorem bo_tuple : bootBuiltins "tuple" = some (.type "tuple") := by decide +kernel
theorem bo_len : bootBuiltins "len" = some (.builtin "len") := by decide +kernel
theorem bo_sorted : bootBuiltins "sorted" = some (.builtin "sorted") := by decide +kernel
theorem bo_set : bootBuiltins "set" = some (.type "set") := by decide +kernel
theorem bo_enumerate : bootBuiltins "enumerate" = some (.type "enumerate") := by decide +kernel
theorem bo_all : bootBuiltins "all" = some (.builtin "all") := by decide +kernel
theorem bo_int : bootBuiltins "int" = some (.type "int") := by decide +kernel
theorem bo_range : bootBuiltins "range" = some (.type "range") := by decide +kernel
theorem bo_abs : bootBuiltins "abs" = some (.builtin "abs") := by decide +kernel
theorem bo_list : bootBuiltins "list" = some (.type "list") := by decide +kernel
theorem bo_reversed : bootBuiltins "reversed" = some (.type "reversed") := by decide +kernel
theorem bo_bool : bootBuiltins "bool" = some (.type "bool") := by decide +kernel
theorem bo_isinstance : bootBuiltins "isinstance" = some (.builtin "isinstance") := by decide +kernel
theorem bo_str : bootBuiltins "str" = some (.type "str") := by decide +kernel
theorem bo_min : bootBuiltins "min" = some (.builtin "min") := by decide +kernel
structure Bi (mg : Mg) : Prop where
  b_tuple : mg "tuple" = none
  b_len : mg "len" = none
  b_sorted : mg "sorted" = none
  b_set : mg "set" = none
  b_enumerate : mg "enumerate" = none
  b_all : mg "all" = none
  b_int : mg "int" = none
  b_range : mg "range" = none
  b_abs : mg "abs" = none
  b_list : mg "list" = none
  b_reversed : mg "reversed" = none
  b_bool : mg "bool" = none
  b_isinstance : mg "isinstance" = none
  b_str : mg "str" = none
  b_min : mg "min" = none
def exL : T2B := [(("BadNames", "BadPaper"), false), (("BadWish", "BadPaper"), false), (("TooMany", "BadPaper"), false), (("BadName", "BadPaper"), false), (("BadText", "BadPaper"), false), (("BadPaper", "BadPaper"), true), (("BadLiar", "BadPaper"), false)]
def kiL : T2B := (([(("BadNames", "BookError"), true), (("BadNames", "BadNames"), true), (("BadNames", "BadWish"), false), (("BadNames", "TooMany"), false), (("BadNames", "BadName"), false), (("BadNames", "BadText"), false), (("BadNames", "BadPaper"), false), (("BadNames", "BadLiar"), false), (("BadNames", "Book"), false), (("BadWish", "BookError"), true), (("BadWish", "BadNames"), false), (("BadWish", "BadWish"), true), (("BadWish", "TooMany"), false), (("BadWish", "BadName"), false), (("BadWish", "BadText"), false)] : T2B) ++ ([(("BadWish", "BadPaper"), false), (("BadWish", "BadLiar"), false), (("BadWish", "Book"), false), (("TooMany", "BookError"), true), (("TooMany", "BadNames"), false), (("TooMany", "BadWish"), false), (("TooMany", "TooMany"), true), (("TooMany", "BadName"), false), (("TooMany", "BadText"), false), (("TooMany", "BadPaper"), false), (("TooMany", "BadLiar"), false), (("TooMany", "Book"), false), (("BadName", "BookError"), true), (("BadName", "BadNames"), false), (("BadName", "BadWish"), false)] : T2B) ++ ([(("BadName", "TooMany"), false), (("BadName", "BadName"), true), (("BadName", "BadText"), false), (("BadName", "BadPaper"), false), (("BadName", "BadLiar"), false), (("BadName", "Book"), false), (("BadText", "BookError"), true), (("BadText", "BadNames"), false), (("BadText", "BadWish"), false), (("BadText", "TooMany"), false), (("BadText", "BadName"), false), (("BadText", "BadText"), true), (("BadText", "BadPaper"), false), (("BadText", "BadLiar"), false), (("BadText", "Book"), false)] : T2B) ++ ([(("BadPaper", "BookError"), true), (("BadPaper", "BadNames"), false), (("BadPaper", "BadWish"), false), (("BadPaper", "TooMany"), false), (("BadPaper", "BadName"), false), (("BadPaper", "BadText"), false), (("BadPaper", "BadPaper"), true), (("BadPaper", "BadLiar"), false), (("BadPaper", "Book"), false), (("BadLiar", "BookError"), true), (("BadLiar", "BadNames"), false), (("BadLiar", "BadWish"), false), (("BadLiar", "TooMany"), false), (("BadLiar", "BadName"), false), (("BadLiar", "BadText"), false)] : T2B) ++ ([(("BadLiar", "BadPaper"), false), (("BadLiar", "BadLiar"), true), (("BadLiar", "Book"), false)] : T2B))
def ki2L : List ((Str × String) × Bool) := [(("BadNames", "ValueError"), true), (("BadNames", "Exception"), true), (("BadWish", "ValueError"), true), (("BadWish", "Exception"), true), (("TooMany", "ValueError"), true), (("TooMany", "Exception"), true), (("BadName", "ValueError"), true), (("BadName", "Exception"), true), (("BadText", "ValueError"), true), (("BadText", "Exception"), true), (("BadPaper", "ValueError"), true), (("BadPaper", "Exception"), true), (("BadLiar", "ValueError"), true), (("BadLiar", "Exception"), true)]
def xfL : List (Str × Str) := [("BadNames", "names"), ("BadWish", "index"), ("TooMany", "many"), ("BadName", "name"), ("BadText", "at"), ("BadPaper", "place"), ("BadPaper", "kind"), ("BadLiar", "place"), ("BadLiar", "kind")]
def fldL : List (Str × Str) := [("Book", "names"), ("Book", "wishes")]
def cvL : List ((Str × Str) × Int) := [(("Book", "MOST_NAMES"), 40), (("Book", "MOST_WISHES"), 128)]
abbrev fldT := tabX fldL
abbrev cvT := tabI cvL
abbrev exT := tabT exL
abbrev kiT := tabT kiL
abbrev kiT2 := tabT2 ki2L
abbrev xfT := tabX xfL
structure Co (K : PySem.W.Frag) (mg : Mg) : Prop where
  ex : ExT K mg exT
  xf : XfT K mg xfT
  ki : KiT K mg kiT kiT2
  fld : FldT K mg fldT
  cv : CvT K mg cvT
  g_BookError : mg "BookError" = some (.ref (He.ga K "BookError"))
  g_BadNames : mg "BadNames" = some (.ref (He.ga K "BadNames"))
  g_BadWish : mg "BadWish" = some (.ref (He.ga K "BadWish"))
  g_TooMany : mg "TooMany" = some (.ref (He.ga K "TooMany"))
  g_BadName : mg "BadName" = some (.ref (He.ga K "BadName"))
  g_BadText : mg "BadText" = some (.ref (He.ga K "BadText"))
  g_BadPaper : mg "BadPaper" = some (.ref (He.ga K "BadPaper"))
  g_BadLiar : mg "BadLiar" = some (.ref (He.ga K "BadLiar"))
  g_Book : mg "Book" = some (.ref (He.ga K "Book"))
section
variable {K : PySem.W.Frag} {mg : Mg}
theorem Co.k_BookError (C : Co K mg) : ∃ a, mg "BookError" = some (.ref a) := ⟨_, C.g_BookError⟩
theorem Co.n_BookError {X : Cx} (C : Co X.K X.mg) (h : Gl X "BookError") : Names X "BookError" (.ref (He.ga X.K "BookError")) := ⟨h, by decide, .inl C.g_BookError⟩
theorem Co.k_BadNames (C : Co K mg) : ∃ a, mg "BadNames" = some (.ref a) := ⟨_, C.g_BadNames⟩
theorem Co.n_BadNames {X : Cx} (C : Co X.K X.mg) (h : Gl X "BadNames") : Names X "BadNames" (.ref (He.ga X.K "BadNames")) := ⟨h, by decide, .inl C.g_BadNames⟩
theorem Co.k_BadWish (C : Co K mg) : ∃ a, mg "BadWish" = some (.ref a) := ⟨_, C.g_BadWish⟩
theorem Co.n_BadWish {X : Cx} (C : Co X.K X.mg) (h : Gl X "BadWish") : Names X "BadWish" (.ref (He.ga X.K "BadWish")) := ⟨h, by decide, .inl C.g_BadWish⟩
theorem Co.k_TooMany (C : Co K mg) : ∃ a, mg "TooMany" = some (.ref a) := ⟨_, C.g_TooMany⟩
theorem Co.n_TooMany {X : Cx} (C : Co X.K X.mg) (h : Gl X "TooMany") : Names X "TooMany" (.ref (He.ga X.K "TooMany")) := ⟨h, by decide, .inl C.g_TooMany⟩
theorem Co.k_BadName (C : Co K mg) : ∃ a, mg "BadName" = some (.ref a) := ⟨_, C.g_BadName⟩
theorem Co.n_BadName {X : Cx} (C : Co X.K X.mg) (h : Gl X "BadName") : Names X "BadName" (.ref (He.ga X.K "BadName")) := ⟨h, by decide, .inl C.g_BadName⟩
theorem Co.k_BadText (C : Co K mg) : ∃ a, mg "BadText" = some (.ref a) := ⟨_, C.g_BadText⟩
theorem Co.n_BadText {X : Cx} (C : Co X.K X.mg) (h : Gl X "BadText") : Names X "BadText" (.ref (He.ga X.K "BadText")) := ⟨h, by decide, .inl C.g_BadText⟩
theorem Co.k_BadPaper (C : Co K mg) : ∃ a, mg "BadPaper" = some (.ref a) := ⟨_, C.g_BadPaper⟩
theorem Co.n_BadPaper {X : Cx} (C : Co X.K X.mg) (h : Gl X "BadPaper") : Names X "BadPaper" (.ref (He.ga X.K "BadPaper")) := ⟨h, by decide, .inl C.g_BadPaper⟩
theorem Co.k_BadLiar (C : Co K mg) : ∃ a, mg "BadLiar" = some (.ref a) := ⟨_, C.g_BadLiar⟩
theorem Co.n_BadLiar {X : Cx} (C : Co X.K X.mg) (h : Gl X "BadLiar") : Names X "BadLiar" (.ref (He.ga X.K "BadLiar")) := ⟨h, by decide, .inl C.g_BadLiar⟩
theorem Co.k_Book (C : Co K mg) : ∃ a, mg "Book" = some (.ref a) := ⟨_, C.g_Book⟩
theorem Co.n_Book {X : Cx} (C : Co X.K X.mg) (h : Gl X "Book") : Names X "Book" (.ref (He.ga X.K "Book")) := ⟨h, by decide, .inl C.g_Book⟩
end
/-! line_of(book, paper): slots 0=book 1=paper -/
abbrev s_line_of : Stmt := top 23
theorem sc_line_of : FnScope ["book", "paper"] ["book", "paper"] (defScope s_line_of) := ⟨rfl, rfl, rfl, by decide +kernel, rfl, by decide +kernel, by decide +kernel⟩
noncomputable def b_line_of : SS :=
    sRet (eIf (qB (eBin (gEqD false) (eBin gIx (eV 1) (eC (.int 0))) (eC (.str "wish")))) (eBin gIx (eFld fldT "wishes" (eV 0)) (eBin gIx (eV 1) (eC (.int 1)))) (eBin gIx (eV 1) (eC (.int 2))))
noncomputable def m_line_of : Mir := runF 2 b_line_of
/-! within(row, other): slots 0=row 1=other 2=pair -/
abbrev s_within : Stmt := top 12
theorem sc_within : FnScope ["row", "other", "pair"] ["row", "other"] (defScope s_within) := ⟨rfl, rfl, rfl, by decide +kernel, rfl, by decide +kernel, by decide +kernel⟩
noncomputable def within_c1 : EE :=
    eLc (iSeq (eV 0)) (gD 2) (qYes) (eBin (gInA false) (eV 2) (eV 1)) [2]
noncomputable def b_within : SS :=
    sRet (eCB gAll (eCons (within_c1) (eNil)))
noncomputable def m_within : Mir := runF 3 b_within
/-! answer_in(stand, name): slots 0=stand 1=name 2=key 3=value -/
abbrev s_answer_in : Stmt := top 13
theorem sc_answer_in : FnScope ["stand", "name", "key", "value"] ["stand", "name"] (defScope s_answer_in) := ⟨rfl, rfl, rfl, by decide +kernel, rfl, by decide +kernel, by decide +kernel⟩
noncomputable def answer_in_b1 : SS :=
    sIf (qB (eBin (gEqD false) (eV 2) (eV 1))) (sRet (eV 3)) (sSkip)
noncomputable def answer_in_l1 : SS :=
    sFor (iSeq (eV 0)) (gTupD (gConsD (gD 2) (gConsD (gD 3) (gNilD)))) (answer_in_b1)
noncomputable def b_answer_in : SS :=
    sSeq (answer_in_l1)
    (sRet (eC .non))
noncomputable def m_answer_in : Mir := runF 4 b_answer_in
/-! row_is_right(names, row): slots 0=names 1=row 2=last 3=name 4=value -/
abbrev s_row_is_right : Stmt := top 11
theorem sc_row_is_right : FnScope ["names", "row", "last", "name", "value"] ["names", "row"] (defScope s_row_is_right) := ⟨rfl, rfl, rfl, by decide +kernel, rfl, by decide +kernel, by decide +kernel⟩
noncomputable def row_is_right_b1 : SS :=
    sSeq (sIf (qOr (qB (eBin gLeI (eV 3) (eV 2))) (qOr (qB (eBin gGtI (eV 3) (eV 0))) (qB (eBin (gInA true) (eV 4) (eTup (eCons (eC (.int 0)) (eCons (eC (.int 1)) (eNil)))))))) (sRet (eC (.bl false))) (sSkip))
    (sAsg (eOwn (eV 3)) (gD 2))
noncomputable def row_is_right_l1 : SS :=
    sFor (iSeq (eV 1)) (gTupD (gConsD (gD 3) (gConsD (gD 4) (gNilD)))) (row_is_right_b1)
noncomputable def b_row_is_right : SS :=
    sSeq (sAsg (eOwn (eC (.int 0))) (gD 2))
    (sSeq (row_is_right_l1)
    (sRet (eC (.bl true))))
noncomputable def m_row_is_right : Mir := runF 5 b_row_is_right
/-! node_fault(book, paper, place): slots 0=book 1=paper 2=place 3=name 4=line 5=side 6=fault 7=kind -/
abbrev s_node_fault : Stmt := top 24
theorem sc_node_fault : FnScope ["book", "paper", "place", "name", "line", "side", "fault", "kind"] ["book", "paper", "place"] (defScope s_node_fault) := ⟨rfl, rfl, rfl, by decide +kernel, rfl, by decide +kernel, by decide +kernel⟩
noncomputable def node_fault_b1 (m_rec : Mir) : SS :=
    sIf (qNot (qTru (eCall (m_within) 2 (eCons (eCall (m_line_of) 2 (eCons (eV 0) (eCons (eBin gIx (eV 1) (eBin gAdd (eC (.int 3)) (eV 5))) (eNil)))) (eCons (eBin gAdd (eV 4) (eTup (eCons (eTup (eCons (eV 3) (eCons (eBin gSubI (eC (.int 1)) (eV 5)) (eNil)))) (eNil)))) (eNil)))))) (sRet (eTup (eCons (eV 2) (eCons (eV 7) (eNil))))) (sSkip)
noncomputable def node_fault_l1 (m_rec : Mir) : SS :=
    sFor (iSeq (eTup (eCons (eTup (eCons (eC (.int 0)) (eCons (eC (.str "left")) (eNil)))) (eCons (eTup (eCons (eC (.int 1)) (eCons (eC (.str "right")) (eNil)))) (eNil))))) (gTupD (gConsD (gD 5) (gConsD (gD 7) (gNilD)))) ((node_fault_b1 m_rec))
noncomputable def node_fault_b2 (m_rec : Mir) : SS :=
    sSeq (sAsg (eOwn (eCall (m_rec) 3 (eCons (eV 0) (eCons (eBin gIx (eV 1) (eBin gAdd (eC (.int 3)) (eV 5))) (eCons (eBin gAdd (eV 2) (eTup (eCons (eV 5) (eNil)))) (eNil)))))) (gD 6))
    (sIf (qB (eBin (gIsN true) (eV 6) (eC .non))) (sRet (eV 6)) (sSkip))
noncomputable def node_fault_l2 (m_rec : Mir) : SS :=
    sFor (iSeq (eTup (eCons (eC (.int 0)) (eCons (eC (.int 1)) (eNil))))) (gD 5) ((node_fault_b2 m_rec))
noncomputable def b_node_fault (m_rec : Mir) : SS :=
    sSeq (sIf (qB (eBin (gEqD false) (eBin gIx (eV 1) (eC (.int 0))) (eC (.str "wish")))) (sRet (eIf (qB (eChain gLeI gLtI (eC (.int 0)) (eBin gIx (eV 1) (eC (.int 1))) (eCB gLen (eCons (eFld fldT "wishes" (eV 0)) (eNil))))) (eC .non) (eTup (eCons (eV 2) (eCons (eC (.str "wish")) (eNil)))))) (sSkip))
    (sSeq (sPar 3 4 (eCons (eBin gIx (eV 1) (eC (.int 1))) (eCons (eBin gIx (eV 1) (eC (.int 2))) (eNil))))
    (sSeq ((node_fault_l2 m_rec))
    (sSeq (sIf (qNot (qTru (eCall (m_row_is_right) 2 (eCons (eFld fldT "names" (eV 0)) (eCons (eV 4) (eNil)))))) (sRet (eTup (eCons (eV 2) (eCons (eC (.str "line")) (eNil))))) (sSkip))
    (sSeq (sIf (qNot (qB (eChain gLeI gLeI (eC (.int 1)) (eV 3) (eFld fldT "names" (eV 0))))) (sRet (eTup (eCons (eV 2) (eCons (eC (.str "name")) (eNil))))) (sSkip))
    (sSeq (sIf (qB (eBin (gIsN true) (eCall (m_answer_in) 2 (eCons (eV 4) (eCons (eV 3) (eNil)))) (eC .non))) (sRet (eTup (eCons (eV 2) (eCons (eC (.str "asked")) (eNil))))) (sSkip))
    (sSeq ((node_fault_l1 m_rec))
    (sRet (eC .non))))))))
noncomputable def m_node_fault : Nat → Mir
  | 0 => fun _ => none
  | d + 1 => runF 8 (b_node_fault (m_node_fault d))
/-! line_tree_fault(book, paper): slots 0=book 1=paper 2=fault -/
abbrev s_line_tree_fault : Stmt := top 25
theorem sc_line_tree_fault : FnScope ["book", "paper", "fault"] ["book", "paper"] (defScope s_line_tree_fault) := ⟨rfl, rfl, rfl, by decide +kernel, rfl, by decide +kernel, by decide +kernel⟩
noncomputable def b_line_tree_fault : SS :=
    sSeq (sAsg (eOwn (eCall (m_node_fault 110) 3 (eCons (eV 0) (eCons (eV 1) (eCons (eTup (eNil)) (eNil)))))) (gD 2))
    (sSeq (sIf (qAnd (qB (eBin (gIsN false) (eV 2) (eC .non))) (qB (eBin (gEqD true) (eCall (m_line_of) 2 (eCons (eV 0) (eCons (eV 1) (eNil)))) (eTup (eNil))))) (sRet (eTup (eCons (eTup (eNil)) (eCons (eC (.str "end")) (eNil))))) (sSkip))
    (sRet (eV 2)))
noncomputable def m_line_tree_fault : Mir := runF 3 b_line_tree_fault
/-! with_answer(stand, name, answer): slots 0=stand 1=name 2=answer 3=before 4=after 5=pair -/
abbrev s_with_answer : Stmt := top 14
theorem sc_with_answer : FnScope ["stand", "name", "answer", "before", "after", "pair"] ["stand", "name", "answer"] (defScope s_with_answer) := ⟨rfl, rfl, rfl, by decide +kernel, rfl, by decide +kernel, by decide +kernel⟩
noncomputable def with_answer_c1 : EE :=
    eLc (iSeq (eV 0)) (gD 5) (qB (eBin gGtI (eBin gIx (eV 5) (eC (.int 0))) (eV 1))) (eV 5) [5]
noncomputable def with_answer_c2 : EE :=
    eLc (iSeq (eV 0)) (gD 5) (qB (eBin gLtI (eBin gIx (eV 5) (eC (.int 0))) (eV 1))) (eV 5) [5]
noncomputable def b_with_answer : SS :=
    sSeq (sAsg (eOwn with_answer_c2) (gD 3))
    (sSeq (sAsg (eOwn with_answer_c1) (gD 4))
    (sSeq (sIf (qB (eBin gLtI (eBin gAdd (eCB gLen (eCons (eV 3) (eNil))) (eCB gLen (eCons (eV 4) (eNil)))) (eCB gLen (eCons (eV 0) (eNil))))) (sRaise "BadName" ["name"] (eCons (eV 1) (eNil))) (sSkip))
    (sRet (eBin gAdd (eBin gAdd (eCB gTuple (eCons (eV 3) (eNil))) (eTup (eCons (eTup (eCons (eV 1) (eCons (eV 2) (eNil)))) (eNil)))) (eCB gTuple (eCons (eV 4) (eNil)))))))
noncomputable def m_with_answer : Mir := runF 6 b_with_answer
/-! walked_tree(paper, stand): slots 0=paper 1=stand 2=name 3=answer 4=sides 5=side -/
abbrev s_walked_tree : Stmt := top 27
theorem sc_walked_tree : FnScope ["paper", "stand", "name", "answer", "sides", "side"] ["paper", "stand"] (defScope s_walked_tree) := ⟨rfl, rfl, rfl, by decide +kernel, rfl, by decide +kernel, by decide +kernel⟩
noncomputable def walked_tree_c1 (m_rec : Mir) : EE :=
    eLc (iSeq (eTup (eCons (eC (.int 0)) (eCons (eC (.int 1)) (eNil))))) (gD 5) (qYes) (eCall (m_rec) 2 (eCons (eBin gIx (eV 0) (eBin gAdd (eC (.int 3)) (eV 5))) (eCons (eCall (m_with_answer) 3 (eCons (eV 1) (eCons (eV 2) (eCons (eV 5) (eNil))))) (eNil)))) [5]
noncomputable def b_walked_tree (m_rec : Mir) : SS :=
    sSeq (sIf (qB (eBin (gEqD false) (eBin gIx (eV 0) (eC (.int 0))) (eC (.str "wish")))) (sRet (eTup (eCons (eC (.str "leaf")) (eCons (eBin gIx (eV 0) (eC (.int 1))) (eNil))))) (sSkip))
    (sSeq (sAsg (eOwn (eBin gIx (eV 0) (eC (.int 1)))) (gD 2))
    (sSeq (sAsg (eOwn (eCall (m_answer_in) 2 (eCons (eV 1) (eCons (eV 2) (eNil))))) (gD 3))
    (sSeq (sIf (qB (eBin (gIsN true) (eV 3) (eC .non))) (sRet (eCall (m_rec) 2 (eCons (eBin gIx (eV 0) (eBin gAdd (eC (.int 3)) (eV 3))) (eCons (eV 1) (eNil))))) (sSkip))
    (sSeq (sAsg (eOwn (walked_tree_c1 m_rec)) (gD 4))
    (sRet (eTup (eCons (eC (.str "ask")) (eCons (eV 2) (eCons (eBin gIx (eV 4) (eC (.int 0))) (eCons (eBin gIx (eV 4) (eC (.int 1))) (eNil)))))))))))
noncomputable def m_walked_tree : Nat → Mir
  | 0 => fun _ => none
  | d + 1 => runF 6 (b_walked_tree (m_walked_tree d))
/-! lines_tree(book, paper): slots 0=book 1=paper 2=fault -/
abbrev s_lines_tree : Stmt := top 28
theorem sc_lines_tree : FnScope ["book", "paper", "fault"] ["book", "paper"] (defScope s_lines_tree) := ⟨rfl, rfl, rfl, by decide +kernel, rfl, by decide +kernel, by decide +kernel⟩
noncomputable def b_lines_tree : SS :=
    sSeq (sAsg (eOwn (eCall (m_line_tree_fault) 2 (eCons (eV 0) (eCons (eV 1) (eNil))))) (gD 2))
    (sSeq (sIf (qB (eBin (gIsN true) (eV 2) (eC .non))) (sRaise "BadPaper" ["place", "kind"] (eCons (eBin gIx (eV 2) (eC (.int 0))) (eCons (eBin gIx (eV 2) (eC (.int 1))) (eNil)))) (sSkip))
    (sRet (eCall (m_walked_tree 110) 2 (eCons (eV 1) (eCons (eTup (eNil)) (eNil))))))
noncomputable def m_lines_tree : Mir := runF 3 b_lines_tree
/-! _law_refused(book, paper): slots 0=book 1=paper 2=e -/
abbrev s__law_refused : Stmt := top 48
theorem sc__law_refused : FnScope ["book", "paper", "e"] ["book", "paper"] (defScope s__law_refused) := ⟨rfl, rfl, rfl, by decide +kernel, rfl, by decide +kernel, by decide +kernel⟩
noncomputable def _law_refused_h1 : Addr → Addr → Exn → SS :=
    fun a_ d_ x_ => sSeq (sIf (qOr (qNot (qTru (eCB (gIsE kiT kiT2 a_ d_ x_.cls) (eCons (eV 2) (eCons (eC (.glob "BookError")) (eNil)))))) (qTru (eCB (gIsT kiT a_ d_ x_.cls) (eCons (eV 2) (eCons (eTup (eCons (eC (.glob "BadLiar")) (eCons (eC (.glob "BadWish")) (eNil)))) (eNil)))))) (sRet (eTup (eCons (eC (.str "other")) (eCons (eC (.int 0)) (eNil))))) (sSkip))
    (sRet (eTup (eCons (eXf xfT a_ d_ x_ "place" (eV 2)) (eCons (eXf xfT a_ d_ x_ "kind" (eV 2)) (eNil)))))
noncomputable def b__law_refused : SS :=
    sSeq (sTry exT (sDrop (eCall (m_lines_tree) 2 (eCons (eV 0) (eCons (eV 1) (eNil))))) [⟨"BadPaper", some 2, _law_refused_h1⟩])
    (sRet (eC .non))
noncomputable def m__law_refused : Mir := runF 3 b__law_refused
/-! _law_same(actual, expected): slots 0=actual 1=expected 2=k -/
abbrev s__law_same : Stmt := top 47
theorem sc__law_same : FnScope ["actual", "expected", "k"] ["actual", "expected"] (defScope s__law_same) := ⟨rfl, rfl, rfl, by decide +kernel, rfl, by decide +kernel, by decide +kernel⟩
noncomputable def _law_same_b1 (m_rec : Mir) : SS :=
    sIf (qNot (qTru (eCall (m_rec) 2 (eCons (eBin gIx (eV 0) (eV 2)) (eCons (eBin gIx (eV 1) (eV 2)) (eNil)))))) (sRet (eC (.bl false))) (sSkip)
noncomputable def _law_same_l1 (m_rec : Mir) : SS :=
    sFor (iR1 (eCons (eCB gLen (eCons (eV 1) (eNil))) (eNil))) (gD 2) ((_law_same_b1 m_rec))
noncomputable def b__law_same (m_rec : Mir) : SS :=
    sSeq (sIf (qTru (eCB gIsi (eCons (eV 1) (eCons (eC (.ty "tuple")) (eNil))))) (sSeq (sIf (qOr (qNot (qTru (eCB gIsi (eCons (eV 0) (eCons (eC (.ty "tuple")) (eNil)))))) (qB (eBin (gEqD true) (eCB gLen (eCons (eV 0) (eNil))) (eCB gLen (eCons (eV 1) (eNil)))))) (sRet (eC (.bl false))) (sSkip))
    (sSeq ((_law_same_l1 m_rec))
    (sRet (eC (.bl true))))) (sSkip))
    (sSeq (sIf (qTru (eCB gIsi (eCons (eV 1) (eCons (eC (.ty "str")) (eNil))))) (sRet (eAnd (eCB gIsi (eCons (eV 0) (eCons (eC (.ty "str")) (eNil)))) (eBin (gEqD false) (eV 0) (eV 1)))) (sSkip))
    (sRet (eAnd (eCB gIsi (eCons (eV 0) (eCons (eC (.ty "int")) (eNil)))) (eAnd (eNot (eCB gIsi (eCons (eV 0) (eCons (eC (.ty "bool")) (eNil))))) (eBin (gEqD false) (eV 0) (eV 1))))))
noncomputable def m__law_same : Nat → Mir
  | 0 => fun _ => none
  | d + 1 => runF 3 (b__law_same (m__law_same d))
/-! _law_leaf_rows(paper): slots 0=paper -/
abbrev s__law_leaf_rows : Stmt := top 36
theorem sc__law_leaf_rows : FnScope ["paper"] ["paper"] (defScope s__law_leaf_rows) := ⟨rfl, rfl, rfl, by decide +kernel, rfl, by decide +kernel, by decide +kernel⟩
noncomputable def b__law_leaf_rows (m_rec : Mir) : SS :=
    sSeq (sIf (qB (eBin (gEqD false) (eBin gIx (eV 0) (eC (.int 0))) (eC (.str "wish")))) (sRet (eLst (eCons (eBin gIx (eV 0) (eC (.int 1))) (eNil)))) (sSkip))
    (sRet (eBin gAdd (eCall (m_rec) 1 (eCons (eBin gIx (eV 0) (eC (.int 3))) (eNil))) (eCall (m_rec) 1 (eCons (eBin gIx (eV 0) (eC (.int 4))) (eNil)))))
noncomputable def m__law_leaf_rows : Nat → Mir
  | 0 => fun _ => none
  | d + 1 => runF 1 (b__law_leaf_rows (m__law_leaf_rows d))
/-! line_tree_leaves(paper): slots 0=paper -/
abbrev s_line_tree_leaves : Stmt := top 26
theorem sc_line_tree_leaves : FnScope ["paper"] ["paper"] (defScope s_line_tree_leaves) := ⟨rfl, rfl, rfl, by decide +kernel, rfl, by decide +kernel, by decide +kernel⟩
noncomputable def b_line_tree_leaves (m_rec : Mir) : SS :=
    sSeq (sIf (qB (eBin (gEqD false) (eBin gIx (eV 0) (eC (.int 0))) (eC (.str "wish")))) (sRet (eC (.int 1))) (sSkip))
    (sRet (eBin gAdd (eCall (m_rec) 1 (eCons (eBin gIx (eV 0) (eC (.int 3))) (eNil))) (eCall (m_rec) 1 (eCons (eBin gIx (eV 0) (eC (.int 4))) (eNil)))))
noncomputable def m_line_tree_leaves : Nat → Mir
  | 0 => fun _ => none
  | d + 1 => runF 1 (b_line_tree_leaves (m_line_tree_leaves d))
/-! _law_line(wishes, paper): slots 0=wishes 1=paper -/
abbrev s__law_line : Stmt := top 43
theorem sc__law_line : FnScope ["wishes", "paper"] ["wishes", "paper"] (defScope s__law_line) := ⟨rfl, rfl, rfl, by decide +kernel, rfl, by decide +kernel, by decide +kernel⟩
noncomputable def b__law_line : SS :=
    sRet (eIf (qB (eBin (gEqD false) (eBin gIx (eV 1) (eC (.int 0))) (eC (.str "wish")))) (eBin gIx (eV 0) (eBin gIx (eV 1) (eC (.int 1)))) (eBin gIx (eV 1) (eC (.int 2))))
noncomputable def m__law_line : Mir := runF 2 b__law_line
/-! _law_right_row(names, row): slots 0=names 1=row 2=last 3=word -/
abbrev s__law_right_row : Stmt := top 44
theorem sc__law_right_row : FnScope ["names", "row", "last", "word"] ["names", "row"] (defScope s__law_right_row) := ⟨rfl, rfl, rfl, by decide +kernel, rfl, by decide +kernel, by decide +kernel⟩
noncomputable def _law_right_row_b1 : SS :=
    sSeq (sIf (qOr (qNot (qB (eChain gLtI gLeI (eV 2) (eBin gIx (eV 3) (eC (.int 0))) (eV 0)))) (qB (eBin (gInA true) (eBin gIx (eV 3) (eC (.int 1))) (eTup (eCons (eC (.int 0)) (eCons (eC (.int 1)) (eNil))))))) (sRet (eC (.bl false))) (sSkip))
    (sAsg (eOwn (eBin gIx (eV 3) (eC (.int 0)))) (gD 2))
noncomputable def _law_right_row_l1 : SS :=
    sFor (iSeq (eV 1)) (gD 3) (_law_right_row_b1)
noncomputable def b__law_right_row : SS :=
    sSeq (sAsg (eOwn (eC (.int 0))) (gD 2))
    (sSeq (_law_right_row_l1)
    (sRet (eC (.bl true))))
noncomputable def m__law_right_row : Mir := runF 4 b__law_right_row
/-! _law_node_fault(names, wishes, paper, place): slots 0=names 1=wishes 2=paper 3=place 4=side 5=fault 6=allowed 7=word -/
abbrev s__law_node_fault : Stmt := top 45
theorem sc__law_node_fault : FnScope ["names", "wishes", "paper", "place", "side", "fault", "allowed", "word"] ["names", "wishes", "paper", "place"] (defScope s__law_node_fault) := ⟨rfl, rfl, rfl, by decide +kernel, rfl, by decide +kernel, by decide +kernel⟩
noncomputable def _law_node_fault_c1 (m_rec : Mir) : EE :=
    eLc (iSeq (eCall (m__law_line) 2 (eCons (eV 1) (eCons (eBin gIx (eV 2) (eBin gAdd (eC (.int 3)) (eV 4))) (eNil))))) (gD 7) (qB (eBin (gInA true) (eV 7) (eV 6))) (eV 7) [7]
noncomputable def _law_node_fault_c2 (m_rec : Mir) : EE :=
    eLc (iSeq (eBin gIx (eV 2) (eC (.int 2)))) (gD 7) (qYes) (eV 7) [7]
noncomputable def _law_node_fault_b1 (m_rec : Mir) : SS :=
    sSeq (sAsg (eOwn (eBin gAdd ((_law_node_fault_c2 m_rec)) (eLst (eCons (eTup (eCons (eBin gIx (eV 2) (eC (.int 1))) (eCons (eBin gSubI (eC (.int 1)) (eV 4)) (eNil)))) (eNil))))) (gD 6))
    (sIf (qB (eBin gGtI (eCB gLen (eCons ((_law_node_fault_c1 m_rec)) (eNil))) (eC (.int 0)))) (sRet (eTup (eCons (eV 3) (eCons (eBin gIx (eLst (eCons (eC (.str "left")) (eCons (eC (.str "right")) (eNil)))) (eV 4)) (eNil))))) (sSkip))
noncomputable def _law_node_fault_l1 (m_rec : Mir) : SS :=
    sFor (iR1 (eCons (eC (.int 2)) (eNil))) (gD 4) ((_law_node_fault_b1 m_rec))
noncomputable def _law_node_fault_c3 (m_rec : Mir) : EE :=
    eLc (iSeq (eBin gIx (eV 2) (eC (.int 2)))) (gD 7) (qYes) (eBin gIx (eV 7) (eC (.int 0))) [7]
noncomputable def _law_node_fault_b2 (m_rec : Mir) : SS :=
    sSeq (sAsg (eOwn (eCall (m_rec) 4 (eCons (eV 0) (eCons (eV 1) (eCons (eBin gIx (eV 2) (eBin gAdd (eC (.int 3)) (eV 4))) (eCons (eBin gAdd (eV 3) (eTup (eCons (eV 4) (eNil)))) (eNil))))))) (gD 5))
    (sIf (qB (eBin (gIsN true) (eV 5) (eC .non))) (sRet (eV 5)) (sSkip))
noncomputable def _law_node_fault_l2 (m_rec : Mir) : SS :=
    sFor (iR1 (eCons (eC (.int 2)) (eNil))) (gD 4) ((_law_node_fault_b2 m_rec))
noncomputable def b__law_node_fault (m_rec : Mir) : SS :=
    sSeq (sIf (qB (eBin (gEqD false) (eBin gIx (eV 2) (eC (.int 0))) (eC (.str "wish")))) (sRet (eIf (qB (eChain gLeI gLtI (eC (.int 0)) (eBin gIx (eV 2) (eC (.int 1))) (eCB gLen (eCons (eV 1) (eNil))))) (eC .non) (eTup (eCons (eV 3) (eCons (eC (.str "wish")) (eNil)))))) (sSkip))
    (sSeq ((_law_node_fault_l2 m_rec))
    (sSeq (sIf (qNot (qTru (eCall (m__law_right_row) 2 (eCons (eV 0) (eCons (eBin gIx (eV 2) (eC (.int 2))) (eNil)))))) (sRet (eTup (eCons (eV 3) (eCons (eC (.str "line")) (eNil))))) (sSkip))
    (sSeq (sIf (qNot (qB (eChain gLeI gLeI (eC (.int 1)) (eBin gIx (eV 2) (eC (.int 1))) (eV 0)))) (sRet (eTup (eCons (eV 3) (eCons (eC (.str "name")) (eNil))))) (sSkip))
    (sSeq (sIf (qB (eBin (gInA false) (eBin gIx (eV 2) (eC (.int 1))) ((_law_node_fault_c3 m_rec)))) (sRet (eTup (eCons (eV 3) (eCons (eC (.str "asked")) (eNil))))) (sSkip))
    (sSeq ((_law_node_fault_l1 m_rec))
    (sRet (eC .non)))))))
noncomputable def m__law_node_fault : Nat → Mir
  | 0 => fun _ => none
  | d + 1 => runF 8 (b__law_node_fault (m__law_node_fault d))
/-! _law_due(names, wishes, paper): slots 0=names 1=wishes 2=paper 3=fault -/
abbrev s__law_due : Stmt := top 46
theorem sc__law_due : FnScope ["names", "wishes", "paper", "fault"] ["names", "wishes", "paper"] (defScope s__law_due) := ⟨rfl, rfl, rfl, by decide +kernel, rfl, by decide +kernel, by decide +kernel⟩
noncomputable def b__law_due : SS :=
    sSeq (sAsg (eOwn (eCall (m__law_node_fault 110) 4 (eCons (eV 0) (eCons (eV 1) (eCons (eV 2) (eCons (eTup (eNil)) (eNil))))))) (gD 3))
    (sSeq (sIf (qAnd (qB (eBin (gIsN false) (eV 3) (eC .non))) (qB (eBin gGtI (eCB gLen (eCons (eCall (m__law_line) 2 (eCons (eV 1) (eCons (eV 2) (eNil)))) (eNil))) (eC (.int 0))))) (sRet (eTup (eCons (eTup (eNil)) (eCons (eC (.str "end")) (eNil))))) (sSkip))
    (sRet (eV 3)))
noncomputable def m__law_due : Mir := runF 4 b__law_due
/-! _law_judged(names, wishes, book, paper): slots 0=names 1=wishes 2=book 3=paper 4=due -/
abbrev s__law_judged : Stmt := top 49
theorem sc__law_judged : FnScope ["names", "wishes", "book", "paper", "due"] ["names", "wishes", "book", "paper"] (defScope s__law_judged) := ⟨rfl, rfl, rfl, by decide +kernel, rfl, by decide +kernel, by decide +kernel⟩
noncomputable def b__law_judged : SS :=
    sSeq (sAsg (eOwn (eCall (m__law_due) 3 (eCons (eV 0) (eCons (eV 1) (eCons (eV 3) (eNil)))))) (gD 4))
    (sSeq (sIf (qNot (qTru (eCall (m__law_same 5) 2 (eCons (eCall (m_line_tree_leaves 110) 1 (eCons (eV 3) (eNil))) (eCons (eCB gLen (eCons (eCall (m__law_leaf_rows 110) 1 (eCons (eV 3) (eNil))) (eNil))) (eNil)))))) (sRet (eC (.bl false))) (sSkip))
    (sSeq (sIf (qB (eBin (gIsN false) (eV 4) (eC .non))) (sRet (eAnd (eBin (gIsN false) (eCall (m_line_tree_fault) 2 (eCons (eV 2) (eCons (eV 3) (eNil)))) (eC .non)) (eBin (gIsN false) (eCall (m__law_refused) 2 (eCons (eV 2) (eCons (eV 3) (eNil)))) (eC .non)))) (sSkip))
    (sRet (eAnd (eCall (m__law_same 5) 2 (eCons (eCall (m_line_tree_fault) 2 (eCons (eV 2) (eCons (eV 3) (eNil)))) (eCons (eV 4) (eNil)))) (eCall (m__law_same 5) 2 (eCons (eCall (m__law_refused) 2 (eCons (eV 2) (eCons (eV 3) (eNil)))) (eCons (eV 4) (eNil))))))))
noncomputable def m__law_judged : Mir := runF 5 b__law_judged
/-! _law_node(paper, place): slots 0=paper 1=place 2=node 3=side -/
abbrev s__law_node : Stmt := top 39
theorem sc__law_node : FnScope ["paper", "place", "node", "side"] ["paper", "place"] (defScope s__law_node) := ⟨rfl, rfl, rfl, by decide +kernel, rfl, by decide +kernel, by decide +kernel⟩
noncomputable def _law_node_b1 : SS :=
    sAsg (eOwn (eBin gIx (eV 2) (eBin gAdd (eC (.int 3)) (eV 3)))) (gD 2)
noncomputable def _law_node_l1 : SS :=
    sFor (iSeq (eV 1)) (gD 3) (_law_node_b1)
noncomputable def b__law_node : SS :=
    sSeq (sAsg (eOwn (eV 0)) (gD 2))
    (sSeq (_law_node_l1)
    (sRet (eV 2)))
noncomputable def m__law_node : Mir := runF 4 b__law_node
/-! _law_put(paper, place, node): slots 0=paper 1=place 2=node -/
abbrev s__law_put : Stmt := top 40
theorem sc__law_put : FnScope ["paper", "place", "node"] ["paper", "place", "node"] (defScope s__law_put) := ⟨rfl, rfl, rfl, by decide +kernel, rfl, by decide +kernel, by decide +kernel⟩
noncomputable def b__law_put (m_rec : Mir) : SS :=
    sSeq (sIf (qB (eBin (gEqD false) (eCB gLen (eCons (eV 1) (eNil))) (eC (.int 0)))) (sRet (eV 2)) (sSkip))
    (sSeq (sIf (qB (eBin (gEqD false) (eBin gIx (eV 1) (eC (.int 0))) (eC (.int 0)))) (sRet (eTup (eCons (eBin gIx (eV 0) (eC (.int 0))) (eCons (eBin gIx (eV 0) (eC (.int 1))) (eCons (eBin gIx (eV 0) (eC (.int 2))) (eCons (eCall (m_rec) 3 (eCons (eBin gIx (eV 0) (eC (.int 3))) (eCons (eSl gSl (eV 1) (oSome (eC (.int 1))) (oNone)) (eCons (eV 2) (eNil))))) (eCons (eBin gIx (eV 0) (eC (.int 4))) (eNil)))))))) (sSkip))
    (sRet (eTup (eCons (eBin gIx (eV 0) (eC (.int 0))) (eCons (eBin gIx (eV 0) (eC (.int 1))) (eCons (eBin gIx (eV 0) (eC (.int 2))) (eCons (eBin gIx (eV 0) (eC (.int 3))) (eCons (eCall (m_rec) 3 (eCons (eBin gIx (eV 0) (eC (.int 4))) (eCons (eSl gSl (eV 1) (oSome (eC (.int 1))) (oNone)) (eCons (eV 2) (eNil))))) (eNil)))))))))
noncomputable def m__law_put : Nat → Mir
  | 0 => fun _ => none
  | d + 1 => runF 3 (b__law_put (m__law_put d))
/-! _law_spoilt_line(names, line, draw, other): slots 0=names 1=line 2=draw 3=other 4=at 5=name 6=way 7=bad 8=word -/
abbrev s__law_spoilt_line : Stmt := top 41
theorem sc__law_spoilt_line : FnScope ["names", "line", "draw", "other", "at", "name", "way", "bad", "word"] ["names", "line", "draw", "other"] (defScope s__law_spoilt_line) := ⟨rfl, rfl, rfl, by decide +kernel, rfl, by decide +kernel, by decide +kernel⟩
noncomputable def _law_spoilt_line_c1 : EE :=
    eLc (iSeq (eV 1)) (gD 8) (qYes) (eIf (qB (eBin (gInA false) (eV 8) (eSl gSl (eV 1) (oSome (eV 4)) (oSome (eBin gAdd (eV 4) (eC (.int 1))))))) (eTup (eCons (eBin gIx (eV 8) (eC (.int 0))) (eCons (eBin gSubI (eC (.int 1)) (eBin gIx (eV 8) (eC (.int 1)))) (eNil)))) (eV 8)) [8]
noncomputable def _law_spoilt_line_c2 : EE :=
    eLc (iRevD (eCB gList (eCons (eV 1) (eNil)))) (gD 8) (qYes) (eV 8) [8]
noncomputable def _law_spoilt_line_c3 : EE :=
    eLc (iSeq (eV 1)) (gD 8) (qYes) (eV 8) [8]
noncomputable def b__law_spoilt_line : SS :=
    sSeq (sAsg (eOwn (eBin gModI (eCB gIntA (eCons (eV 3) (eNil))) (eBin gAdd (eCB gLen (eCons (eV 1) (eNil))) (eC (.int 1))))) (gD 4))
    (sSeq (sAsg (eOwn (eBin gAdd (eC (.int 1)) (eBin gModI (eCB gIntA (eCons (eV 3) (eNil))) (eV 0)))) (gD 5))
    (sSeq (sAsg (eOwn (eBin gModI (eBin gDivI (eV 2) (eC (.int 10))) (eC (.int 6)))) (gD 6))
    (sSeq (sIf (qB (eBin (gEqD false) (eV 6) (eC (.int 0)))) (sRet (eBin gAdd (eSl gSl (eV 1) (oNone) (oSome (eV 4))) (eSl gSl (eV 1) (oSome (eBin gAdd (eV 4) (eC (.int 1)))) (oNone)))) (sSkip))
    (sSeq (sIf (qB (eBin (gEqD false) (eV 6) (eC (.int 1)))) (sRet (eCB gTuple (eCons (eCB gSort (eCons (eBin gAdd (_law_spoilt_line_c3) (eLst (eCons (eTup (eCons (eV 5) (eCons (eBin gModI (eBin gDivI (eV 3) (eC (.int 5))) (eC (.int 2))) (eNil)))) (eNil)))) (eNil))) (eNil)))) (sSkip))
    (sSeq (sIf (qB (eBin (gEqD false) (eV 6) (eC (.int 2)))) (sRet (eCB gTuple (eCons (_law_spoilt_line_c2) (eNil)))) (sSkip))
    (sSeq (sIf (qB (eBin (gEqD false) (eV 6) (eC (.int 3)))) (sRet (eBin gAdd (eBin gAdd (eSl gSl (eV 1) (oNone) (oSome (eV 4))) (eSl gSl (eSl gSl (eV 1) (oNone) (oSome (eV 4))) (oSome (eBin gSubI (eCB gLen (eCons (eSl gSl (eV 1) (oNone) (oSome (eV 4))) (eNil))) (eC (.int 1)))) (oNone))) (eSl gSl (eV 1) (oSome (eV 4)) (oNone)))) (sSkip))
    (sSeq (sIf (qB (eBin (gEqD false) (eV 6) (eC (.int 4)))) (sSeq (sAsg (eOwn (eBin gIx (eLst (eCons (eTup (eCons (eC (.int 0)) (eCons (eC (.int 1)) (eNil)))) (eCons (eTup (eCons (eBin gAdd (eV 0) (eC (.int 1))) (eCons (eC (.int 0)) (eNil)))) (eCons (eTup (eCons (eV 5) (eCons (eC (.int 2)) (eNil)))) (eCons (eTup (eCons (eV 5) (eCons (eBin gSubI (eC (.int 0)) (eC (.int 1))) (eNil)))) (eCons (eTup (eCons (eBin gAdd (eBin gAdd (eV 0) (eC (.int 1))) (eV 3)) (eCons (eC (.int 1)) (eNil)))) (eNil))))))) (eBin gModI (eCB gIntA (eCons (eV 3) (eNil))) (eC (.int 5))))) (gD 7))
    (sRet (eBin gAdd (eBin gAdd (eSl gSl (eV 1) (oNone) (oSome (eV 4))) (eTup (eCons (eV 7) (eNil)))) (eSl gSl (eV 1) (oSome (eV 4)) (oNone))))) (sSkip))
    (sRet (eCB gTuple (eCons (_law_spoilt_line_c1) (eNil)))))))))))
noncomputable def m__law_spoilt_line : Mir := runF 9 b__law_spoilt_line
/-! _law_spoilt(names, many, node, draw, other): slots 0=names 1=many 2=node 3=draw 4=other 5=way -/
abbrev s__law_spoilt : Stmt := top 42
theorem sc__law_spoilt : FnScope ["names", "many", "node", "draw", "other", "way"] ["names", "many", "node", "draw", "other"] (defScope s__law_spoilt) := ⟨rfl, rfl, rfl, by decide +kernel, rfl, by decide +kernel, by decide +kernel⟩
noncomputable def b__law_spoilt : SS :=
    sSeq (sIf (qB (eBin (gEqD false) (eBin gIx (eV 2) (eC (.int 0))) (eC (.str "wish")))) (sRet (eTup (eCons (eC (.str "wish")) (eCons (eBin gIx (eLst (eCons (eBin gAdd (eV 1) (eV 4)) (eCons (eBin gSubI (eBin gSubI (eC (.int 0)) (eC (.int 1))) (eV 4)) (eCons (eBin gModI (eCB gIntA (eCons (eV 4) (eNil))) (eV 1)) (eCons (eV 1) (eCons (eBin gModI (eCB gIntA (eCons (eBin gAdd (eV 4) (eC (.int 1))) (eNil))) (eV 1)) (eNil))))))) (eBin gModI (eV 3) (eC (.int 5)))) (eNil))))) (sSkip))
    (sSeq (sAsg (eOwn (eBin gModI (eV 3) (eC (.int 10)))) (gD 5))
    (sSeq (sIf (qB (eBin (gEqD false) (eV 5) (eC (.int 0)))) (sRet (eTup (eCons (eC (.str "from")) (eCons (eBin gIx (eLst (eCons (eC (.int 0)) (eCons (eBin gSubI (eBin gSubI (eC (.int 0)) (eC (.int 1))) (eV 4)) (eCons (eBin gAdd (eV 0) (eC (.int 1))) (eCons (eBin gAdd (eBin gAdd (eV 0) (eC (.int 1))) (eV 4)) (eNil)))))) (eBin gModI (eBin gDivI (eV 3) (eC (.int 10))) (eC (.int 4)))) (eCons (eBin gIx (eV 2) (eC (.int 2))) (eCons (eBin gIx (eV 2) (eC (.int 3))) (eCons (eBin gIx (eV 2) (eC (.int 4))) (eNil)))))))) (sSkip))
    (sSeq (sIf (qB (eBin gLtI (eV 5) (eC (.int 3)))) (sRet (eTup (eCons (eC (.str "from")) (eCons (eBin gAdd (eC (.int 1)) (eBin gModI (eCB gIntA (eCons (eV 4) (eNil))) (eV 0))) (eCons (eBin gIx (eV 2) (eC (.int 2))) (eCons (eBin gIx (eV 2) (eC (.int 3))) (eCons (eBin gIx (eV 2) (eC (.int 4))) (eNil)))))))) (sSkip))
    (sSeq (sIf (qB (eBin (gEqD false) (eV 5) (eC (.int 3)))) (sRet (eTup (eCons (eC (.str "from")) (eCons (eBin gIx (eV 2) (eC (.int 1))) (eCons (eBin gIx (eV 2) (eC (.int 2))) (eCons (eBin gIx (eV 2) (eC (.int 4))) (eCons (eBin gIx (eV 2) (eC (.int 3))) (eNil)))))))) (sSkip))
    (sSeq (sIf (qB (eBin (gEqD false) (eV 5) (eC (.int 4)))) (sRet (eBin gIx (eV 2) (eBin gAdd (eC (.int 3)) (eBin gModI (eV 4) (eC (.int 2)))))) (sSkip))
    (sRet (eTup (eCons (eC (.str "from")) (eCons (eBin gIx (eV 2) (eC (.int 1))) (eCons (eCall (m__law_spoilt_line) 4 (eCons (eV 0) (eCons (eBin gIx (eV 2) (eC (.int 2))) (eCons (eV 3) (eCons (eV 4) (eNil)))))) (eCons (eBin gIx (eV 2) (eC (.int 3))) (eCons (eBin gIx (eV 2) (eC (.int 4))) (eNil)))))))))))))
noncomputable def m__law_spoilt : Mir := runF 6 b__law_spoilt
/-! _law_places(paper, place): slots 0=paper 1=place -/
abbrev s__law_places : Stmt := top 38
theorem sc__law_places : FnScope ["paper", "place"] ["paper", "place"] (defScope s__law_places) := ⟨rfl, rfl, rfl, by decide +kernel, rfl, by decide +kernel, by decide +kernel⟩
noncomputable def b__law_places (m_rec : Mir) : SS :=
    sSeq (sIf (qB (eBin (gEqD false) (eBin gIx (eV 0) (eC (.int 0))) (eC (.str "wish")))) (sRet (eLst (eCons (eV 1) (eNil)))) (sSkip))
    (sRet (eBin gAdd (eBin gAdd (eCall (m_rec) 2 (eCons (eBin gIx (eV 0) (eC (.int 3))) (eCons (eBin gAdd (eV 1) (eTup (eCons (eC (.int 0)) (eNil)))) (eNil)))) (eCall (m_rec) 2 (eCons (eBin gIx (eV 0) (eC (.int 4))) (eCons (eBin gAdd (eV 1) (eTup (eCons (eC (.int 1)) (eNil)))) (eNil))))) (eLst (eCons (eV 1) (eNil)))))
noncomputable def m__law_places : Nat → Mir
  | 0 => fun _ => none
  | d + 1 => runF 2 (b__law_places (m__law_places d))
/-! _law_cell(script, k): slots 0=script 1=k -/
abbrev s__law_cell : Stmt := top 30
theorem sc__law_cell : FnScope ["script", "k"] ["script", "k"] (defScope s__law_cell) := ⟨rfl, rfl, rfl, by decide +kernel, rfl, by decide +kernel, by decide +kernel⟩
noncomputable def b__law_cell : SS :=
    sSeq (sIf (qB (eBin gLtI (eV 1) (eCB gLen (eCons (eV 0) (eNil))))) (sRet (eBin gIx (eV 0) (eV 1))) (sSkip))
    (sRet (eC (.int 0)))
noncomputable def m__law_cell : Mir := runF 2 b__law_cell
/-! _law_seed(script, k): slots 0=script 1=k 2=first 3=seed 4=cell -/
abbrev s__law_seed : Stmt := top 32
theorem sc__law_seed : FnScope ["script", "k", "first", "seed", "cell"] ["script", "k"] (defScope s__law_seed) := ⟨rfl, rfl, rfl, by decide +kernel, rfl, by decide +kernel, by decide +kernel⟩
noncomputable def _law_seed_b1 : SS :=
    sAsg (eOwn (eBin gModI (eCB gIntA (eCons (eBin gAdd (eBin gMulA (eV 3) (eC (.int 31))) (eCB gAbs (eCons (eV 4) (eNil)))) (eNil))) (eC (.int 999999999989)))) (gD 3)
noncomputable def _law_seed_l1 : SS :=
    sFor (iSeq (eV 0)) (gD 4) (_law_seed_b1)
noncomputable def b__law_seed : SS :=
    sSeq (sAsg (eOwn (eCB gAbs (eCons (eCall (m__law_cell) 2 (eCons (eV 0) (eCons (eV 1) (eNil)))) (eNil)))) (gD 2))
    (sSeq (sIf (qB (eBin gGeI (eV 2) (eBin gPowI (eC (.int 10)) (eC (.int 18))))) (sRet (eV 2)) (sSkip))
    (sSeq (sAsg (eOwn (eBin gAdd (eC (.int 5)) (eV 1))) (gD 3))
    (sSeq (_law_seed_l1)
    (sRet (eV 3)))))
noncomputable def m__law_seed : Mir := runF 5 b__law_seed
/-! _law_draws(cell, many): slots 0=cell 1=many 2=draws 3=rest 4=k 5=state 6=other -/
abbrev s__law_draws : Stmt := top 31
theorem sc__law_draws : FnScope ["cell", "many", "draws", "rest", "k", "state", "other"] ["cell", "many"] (defScope s__law_draws) := ⟨rfl, rfl, rfl, by decide +kernel, rfl, by decide +kernel, by decide +kernel⟩
noncomputable def _law_draws_b1 : SS :=
    sSeq (sAsg (eOwn (eBin gModI (eCB gIntA (eCons (eBin gAdd (eBin gAdd (eBin gMulA (eV 5) (eC (.int 48271))) (eBin gMulA (eC (.int 12345)) (eV 4))) (eC (.int 7))) (eNil))) (eC (.int 2147483647)))) (gD 5))
    (sSeq (sAsg (eOwn (eBin gModI (eCB gIntA (eCons (eBin gAdd (eBin gMulA (eV 5) (eC (.int 69621))) (eV 4)) (eNil))) (eC (.int 1000003)))) (gD 6))
    (sDrop (eMu muAppend (eV 2) (eCons (eBin gModI (eBin gDivI (eV 6) (eC (.int 3))) (eC (.int 60))) (eNil)))))
noncomputable def _law_draws_l1 : SS :=
    sFor (iR1 (eCons (eV 1) (eNil))) (gD 4) (_law_draws_b1)
noncomputable def _law_draws_b2 : SS :=
    sSeq (sDrop (eMu muAppend (eV 2) (eCons (eBin gModI (eV 3) (eC (.int 60))) (eNil))))
    (sAsg (eOwn (eBin gDivI (eV 3) (eC (.int 60)))) (gD 3))
noncomputable def _law_draws_l2 : SS :=
    sFor (iR1 (eCons (eV 1) (eNil))) (gD 4) (_law_draws_b2)
noncomputable def b__law_draws : SS :=
    sSeq (sAsg (eOwn (eLst (eNil))) (gD 2))
    (sSeq (sAsg (eOwn (eCB gAbs (eCons (eV 0) (eNil)))) (gD 3))
    (sSeq (sIf (qB (eBin gGeI (eV 3) (eBin gPowI (eC (.int 10)) (eC (.int 18))))) (sSeq (_law_draws_l2)
    (sRet (eV 2))) (sSkip))
    (sSeq (sAsg (eOwn (eBin gAdd (eV 3) (eC (.int 17)))) (gD 5))
    (sSeq (_law_draws_l1)
    (sRet (eV 2))))))
noncomputable def m__law_draws : Mir := runF 7 b__law_draws
/-! _law_indexed(paper, wishes): slots 0=paper 1=wishes -/
abbrev s__law_indexed : Stmt := top 37
theorem sc__law_indexed : FnScope ["paper", "wishes"] ["paper", "wishes"] (defScope s__law_indexed) := ⟨rfl, rfl, rfl, by decide +kernel, rfl, by decide +kernel, by decide +kernel⟩
noncomputable def b__law_indexed (m_rec : Mir) : SS :=
    sSeq (sIf (qB (eBin (gEqD false) (eBin gIx (eV 0) (eC (.int 0))) (eC (.str "wish")))) (sRet (eTup (eCons (eC (.str "wish")) (eCons (eMl gIndex (eV 1) (eCons (eBin gIx (eV 0) (eC (.int 1))) (eNil))) (eNil))))) (sSkip))
    (sRet (eTup (eCons (eC (.str "from")) (eCons (eBin gIx (eV 0) (eC (.int 1))) (eCons (eBin gIx (eV 0) (eC (.int 2))) (eCons (eCall (m_rec) 2 (eCons (eBin gIx (eV 0) (eC (.int 3))) (eCons (eV 1) (eNil)))) (eCons (eCall (m_rec) 2 (eCons (eBin gIx (eV 0) (eC (.int 4))) (eCons (eV 1) (eNil)))) (eNil))))))))
noncomputable def m__law_indexed : Nat → Mir
  | 0 => fun _ => none
  | d + 1 => runF 2 (b__law_indexed (m__law_indexed d))
/-! plain_row(row): slots 0=row 1=name 2=value -/
abbrev s_plain_row : Stmt := top 16
theorem sc_plain_row : FnScope ["row", "name", "value"] ["row"] (defScope s_plain_row) := ⟨rfl, rfl, rfl, by decide +kernel, rfl, by decide +kernel, by decide +kernel⟩
noncomputable def plain_row_c1 : EE :=
    eLc (iSeq (eV 0)) (gTupD (gConsD (gD 1) (gConsD (gD 2) (gNilD)))) (qYes) (eTup (eCons (eV 1) (eCons (eV 2) (eNil)))) [1, 2]
noncomputable def b_plain_row : SS :=
    sRet (eCB gTuple (eCons (eCB gSort (eCons (plain_row_c1) (eNil))) (eNil)))
noncomputable def m_plain_row : Mir := runF 3 b_plain_row
/-! Book_init(self, names, wishes): slots 0=self 1=names 2=wishes 3=rows 4=at 5=wish 6=row -/
abbrev s_Book_init : Stmt := inner 21 2
theorem sc_Book_init : FnScope ["self", "names", "wishes", "rows", "at", "wish", "row"] ["self", "names", "wishes"] (defScope s_Book_init) := ⟨rfl, rfl, rfl, by decide +kernel, rfl, by decide +kernel, by decide +kernel⟩
noncomputable def Book_init_b1 : SS :=
    sSeq (sAsg (eOwn (eCall (m_plain_row) 1 (eCons (eV 5) (eNil)))) (gD 6))
    (sSeq (sIf (qNot (qTru (eCall (m_row_is_right) 2 (eCons (eV 1) (eCons (eV 6) (eNil)))))) (sRaise "BadWish" ["index"] (eCons (eV 4) (eNil))) (sSkip))
    (sDrop (eMu muAppend (eV 3) (eCons (eV 6) (eNil)))))
noncomputable def Book_init_l1 : SS :=
    sFor (iEnumD (eCons (eV 2) (eNil))) (gTupD (gConsD (gD 4) (gConsD (gD 5) (gNilD)))) (Book_init_b1)
noncomputable def b_Book_init : SS :=
    sSeq (sIf (qOr (qB (eBin gLtI (eV 1) (eC (.int 0)))) (qB (eBin gGtI (eV 1) (eCv cvT "MOST_NAMES" (eC (.glob "Book")))))) (sRaise "BadNames" ["names"] (eCons (eV 1) (eNil))) (sSkip))
    (sSeq (sAsg (eOwn (eLst (eNil))) (gD 3))
    (sSeq (Book_init_l1)
    (sSeq (sAsg (eOwn (eCB gSortSet (eCons (eV 3) eNil))) (gD 3))
    (sSeq (sIf (qB (eBin gGtI (eCB gLen (eCons (eV 3) (eNil))) (eCv cvT "MOST_WISHES" (eC (.glob "Book"))))) (sRaise "TooMany" ["many"] (eCons (eCB gLen (eCons (eV 3) (eNil))) (eNil))) (sSkip))
    (sSeq (sSetF fldT "names" (eV 0) (eV 1))
    (sSetF fldT "wishes" (eV 0) (eCB gTuple (eCons (eV 3) (eNil)))))))))
noncomputable def m_Book_init : Mir := runI 7 "Book" b_Book_init
/-! _law_wish(cell, names): slots 0=cell 1=names 2=draws 3=k -/
abbrev s__law_wish : Stmt := top 33
theorem sc__law_wish : FnScope ["cell", "names", "draws", "k"] ["cell", "names"] (defScope s__law_wish) := ⟨rfl, rfl, rfl, by decide +kernel, rfl, by decide +kernel, by decide +kernel⟩
noncomputable def _law_wish_c1 : EE :=
    eLc (iR1 (eCons (eV 1) (eNil))) (gD 3) (qB (eBin gGtI (eBin gModI (eBin gIx (eV 2) (eV 3)) (eC (.int 3))) (eC (.int 0)))) (eTup (eCons (eBin gAdd (eV 3) (eC (.int 1))) (eCons (eBin gSubI (eBin gModI (eBin gIx (eV 2) (eV 3)) (eC (.int 3))) (eC (.int 1))) (eNil)))) [3]
noncomputable def b__law_wish : SS :=
    sSeq (sAsg (eOwn (eCall (m__law_draws) 2 (eCons (eV 0) (eCons (eV 1) (eNil))))) (gD 2))
    (sRet (eCB gTuple (eCons (_law_wish_c1) (eNil))))
noncomputable def m__law_wish : Mir := runF 4 b__law_wish
/-! _law_part(draw, row): slots 0=draw 1=row 2=part 3=rest 4=word -/
abbrev s__law_part : Stmt := top 34
theorem sc__law_part : FnScope ["draw", "row", "part", "rest", "word"] ["draw", "row"] (defScope s__law_part) := ⟨rfl, rfl, rfl, by decide +kernel, rfl, by decide +kernel, by decide +kernel⟩
noncomputable def _law_part_b1 : SS :=
    sSeq (sIf (qB (eBin (gEqD false) (eBin gModI (eCB gIntA (eCons (eV 3) (eNil))) (eC (.int 2))) (eC (.int 0)))) (sDrop (eMu muAppend (eV 2) (eCons (eV 4) (eNil)))) (sSkip))
    (sAsg (eOwn (eBin gDivI (eV 3) (eC (.int 2)))) (gD 3))
noncomputable def _law_part_l1 : SS :=
    sFor (iSeq (eV 1)) (gD 4) (_law_part_b1)
noncomputable def b__law_part : SS :=
    sSeq (sAsg (eOwn (eLst (eNil))) (gD 2))
    (sSeq (sAsg (eOwn (eV 0)) (gD 3))
    (sSeq (_law_part_l1)
    (sRet (eCB gTuple (eCons (eV 2) (eNil))))))
noncomputable def m__law_part : Mir := runF 5 b__law_part
/-! _law_grow(draws, names, allowed, deep, narrow, at): slots 0=draws 1=names 2=allowed 3=deep 4=narrow 5=at 6=draw 7=other 8=line 9=free 10=name 11=less 12=more 13=left 14=right 15=word -/
abbrev s__law_grow : Stmt := top 35
theorem sc__law_grow : FnScope ((["draws", "names", "allowed", "deep", "narrow", "at", "draw", "other", "line", "free", "name", "less", "more", "left", "right"] : List Str) ++ (["word"] : List Str)) ["draws", "names", "allowed", "deep", "narrow", "at"] (defScope s__law_grow) := ⟨rfl, rfl, rfl, by decide +kernel, rfl, by decide +kernel, by decide +kernel⟩
noncomputable def _law_grow_c1 (m_rec : Mir) : EE :=
    eLc (iSeq (eV 8)) (gD 15) (qYes) (eV 15) [15]
noncomputable def _law_grow_c2 (m_rec : Mir) : EE :=
    eLc (iSeq (eV 8)) (gD 15) (qYes) (eV 15) [15]
noncomputable def _law_grow_c3 (m_rec : Mir) : EE :=
    eLc (iSeq (eV 8)) (gD 15) (qYes) (eBin gIx (eV 15) (eC (.int 0))) [15]
noncomputable def _law_grow_c4 (m_rec : Mir) : EE :=
    eLc (iR2 (eCons (eC (.int 1)) (eCons (eBin gAdd (eV 1) (eC (.int 1))) (eNil)))) (gD 10) (qB (eBin (gInA true) (eV 10) ((_law_grow_c3 m_rec)))) (eV 10) [10]
noncomputable def b__law_grow (m_rec : Mir) : SS :=
    sSeq (sAsg (eOwn (eBin gIx (eV 0) (eBin gModI (eV 5) (eCB gLen (eCons (eV 0) (eNil)))))) (gD 6))
    (sSeq (sAsg (eOwn (eBin gIx (eV 0) (eBin gModI (eBin gAdd (eBin gMulA (eV 5) (eC (.int 7))) (eC (.int 3))) (eCB gLen (eCons (eV 0) (eNil)))))) (gD 7))
    (sSeq (sAsg (eOwn (eIf (qB (eBin gGtI (eBin gModI (eV 7) (eC (.int 3))) (eC (.int 0)))) (eV 2) (eCall (m__law_part) 2 (eCons (eV 6) (eCons (eV 2) (eNil)))))) (gD 8))
    (sSeq (sIf (qAnd (qB (eBin gGtI (eV 4) (eC (.int 1)))) (qB (eBin (gEqD false) (eCB gLen (eCons (eV 8) (eNil))) (eV 1)))) (sAsg (eOwn (eSl gSl (eV 8) (oSome (eC (.int 1))) (oNone))) (gD 8)) (sSkip))
    (sSeq (sAsg (eOwn (_law_grow_c4 m_rec)) (gD 9))
    (sSeq (sIf (qOr (qB (eBin gLtI (eV 3) (eC (.int 1)))) (qOr (qB (eBin (gEqD false) (eCB gLen (eCons (eV 9) (eNil))) (eC (.int 0)))) (qAnd (qB (eBin gLtI (eV 4) (eC (.int 2)))) (qAnd (qB (eBin gGtI (eCB gLen (eCons (eV 2) (eNil))) (eC (.int 0)))) (qB (eBin (gEqD false) (eBin gModI (eV 6) (eC (.int 5))) (eC (.int 4)))))))) (sRet (eTup (eCons (eTup (eCons (eC (.str "wish")) (eCons (eIf (qB (eBin gGtI (eCB gLen (eCons (eV 8) (eNil))) (eC (.int 0)))) (eV 8) (eV 2)) (eNil)))) (eCons (eBin gAdd (eV 5) (eC (.int 1))) (eNil))))) (sSkip))
    (sSeq (sAsg (eOwn (eBin gIx (eV 9) (eBin gModI (eBin gAdd (eV 6) (eV 7)) (eCB gLen (eCons (eV 9) (eNil)))))) (gD 10))
    (sSeq (sAsg (eOwn (eCB gTuple (eCons (eCB gSort (eCons (eBin gAdd ((_law_grow_c2 m_rec)) (eLst (eCons (eTup (eCons (eV 10) (eCons (eC (.int 1)) (eNil)))) (eNil)))) (eNil))) (eNil)))) (gD 11))
    (sSeq (sAsg (eOwn (eCB gTuple (eCons (eCB gSort (eCons (eBin gAdd ((_law_grow_c1 m_rec)) (eLst (eCons (eTup (eCons (eV 10) (eCons (eC (.int 0)) (eNil)))) (eNil)))) (eNil))) (eNil)))) (gD 12))
    (sSeq (sAsg (eOwn (eCall (m_rec) 6 (eCons (eV 0) (eCons (eV 1) (eCons (eV 11) (eCons (eIf (qAnd (qB (eBin gGtI (eV 4) (eC (.int 0)))) (qB (eBin (gEqD false) (eBin gModI (eV 7) (eC (.int 2))) (eC (.int 1))))) (eC (.int 0)) (eBin gSubI (eV 3) (eC (.int 1)))) (eCons (eV 4) (eCons (eBin gAdd (eV 5) (eC (.int 1))) (eNil))))))))) (gD 13))
    (sSeq (sAsg (eOwn (eCall (m_rec) 6 (eCons (eV 0) (eCons (eV 1) (eCons (eV 12) (eCons (eIf (qAnd (qB (eBin gGtI (eV 4) (eC (.int 0)))) (qB (eBin (gEqD false) (eBin gModI (eV 7) (eC (.int 2))) (eC (.int 0))))) (eC (.int 0)) (eBin gSubI (eV 3) (eC (.int 1)))) (eCons (eV 4) (eCons (eBin gIx (eV 13) (eC (.int 1))) (eNil))))))))) (gD 14))
    (sRet (eTup (eCons (eTup (eCons (eC (.str "from")) (eCons (eV 10) (eCons (eV 8) (eCons (eBin gIx (eV 13) (eC (.int 0))) (eCons (eBin gIx (eV 14) (eC (.int 0))) (eNil))))))) (eCons (eBin gIx (eV 14) (eC (.int 1))) (eNil)))))))))))))))
noncomputable def m__law_grow : Nat → Mir
  | 0 => fun _ => none
  | d + 1 => runF 16 (b__law_grow (m__law_grow d))
/-! law(script): slots 0=script 1=first 2=names 3=draws 4=narrow 5=deep 6=grown 7=free 8=rows 9=wishes 10=row 11=book 12=right 13=places 14=more 15=k 16=paper 17=j 18=place 19=node 20=cell 21=wish -/
abbrev s_law : Stmt := top 50
theorem sc_law : FnScope ((["script", "first", "names", "draws", "narrow", "deep", "grown", "free", "rows", "wishes", "row", "book", "right", "places", "more"] : List Str) ++ (["k", "paper", "j", "place", "node", "cell", "wish"] : List Str)) ["script"] (defScope s_law) := ⟨rfl, rfl, rfl, by decide +kernel, rfl, by decide +kernel, by decide +kernel⟩
noncomputable def law_b1 : SS :=
    sSeq (sAsg (eOwn (eBin gIx (eV 13) (eBin gModI (eBin gAdd (eBin gAdd (eBin gIx (eV 14) (eBin gAdd (eBin gMulA (eC (.int 5)) (eV 15)) (eV 17))) (eBin gMulA (eC (.int 60)) (eBin gIx (eV 14) (eBin gSubI (eC (.int 59)) (eV 15))))) (eV 17)) (eCB gLen (eCons (eV 13) (eNil)))))) (gD 18))
    (sSeq (sIf (qAnd (qB (eBin (gEqD false) (eV 17) (eC (.int 1)))) (qB (eBin (gInA true) (eV 18) (eCall (m__law_places 110) 2 (eCons (eV 16) (eCons (eTup (eNil)) (eNil))))))) (sAsg (eOwn (eTup (eNil))) (gD 18)) (sSkip))
    (sSeq (sAsg (eOwn (eCall (m__law_spoilt) 5 (eCons (eV 2) (eCons (eCB gLen (eCons (eV 9) (eNil))) (eCons (eCall (m__law_node) 2 (eCons (eV 16) (eCons (eV 18) (eNil)))) (eCons (eBin gIx (eV 14) (eBin gAdd (eBin gAdd (eBin gMulA (eC (.int 5)) (eV 15)) (eC (.int 2))) (eV 17))) (eCons (eBin gIx (eV 14) (eBin gSubI (eBin gAdd (eBin gMulA (eC (.int 5)) (eV 15)) (eC (.int 4))) (eV 17))) (eNil)))))))) (gD 19))
    (sAsg (eOwn (eCall (m__law_put 110) 3 (eCons (eV 16) (eCons (eV 18) (eCons (eV 19) (eNil)))))) (gD 16))))
noncomputable def law_l1 : SS :=
    sFor (iR1 (eCons (eBin gAdd (eC (.int 1)) (eBin gModI (eV 15) (eC (.int 2)))) (eNil))) (gD 17) (law_b1)
noncomputable def law_b2 : SS :=
    sSeq (sAsg (eOwn (eV 12)) (gD 16))
    (sSeq (law_l1)
    (sSeq (sIf (qB (eBin gGtI (eV 15) (eC (.int 9)))) (sAsg (eOwn (eCall (m__law_node) 2 (eCons (eV 12) (eCons (eBin gIx (eV 13) (eBin gModI (eBin gIx (eV 14) (eV 15)) (eCB gLen (eCons (eV 13) (eNil))))) (eNil))))) (gD 16)) (sSkip))
    (sIf (qNot (qTru (eCall (m__law_judged) 4 (eCons (eV 2) (eCons (eV 9) (eCons (eV 11) (eCons (eV 16) (eNil)))))))) (sRet (eC (.bl false))) (sSkip))))
noncomputable def law_l2 : SS :=
    sFor (iR1 (eCons (eC (.int 12)) (eNil))) (gD 15) (law_b2)
noncomputable def law_s17 : SS :=
    sAsg (eOwn (eCall (m__law_draws) 2 (eCons (eCall (m__law_seed) 2 (eCons (eV 0) (eCons (eC (.int 2)) (eNil)))) (eCons (eC (.int 60)) (eNil))))) (gD 14)
noncomputable def law_s16 : SS :=
    sAsg (eOwn (eCall (m__law_places 110) 2 (eCons (eV 12) (eCons (eTup (eNil)) (eNil))))) (gD 13)
noncomputable def law_s15 : SS :=
    sIf (qOr (qB (eBin (gIsN true) (eCall (m__law_due) 3 (eCons (eV 2) (eCons (eV 9) (eCons (eV 12) (eNil))))) (eC .non))) (qNot (qTru (eCall (m__law_judged) 4 (eCons (eV 2) (eCons (eV 9) (eCons (eV 11) (eCons (eV 12) (eNil))))))))) (sRet (eC (.bl false))) (sSkip)
noncomputable def law_s14 : SS :=
    sAsg (eOwn (eCall (m__law_indexed 110) 2 (eCons (eV 6) (eCons (eV 9) (eNil))))) (gD 12)
noncomputable def law_c1 : EE :=
    eLc (iSeq (eV 9)) (gD 21) (qYes) (eFrz (eCB gList (eCons (eV 21) (eNil)))) [21]
noncomputable def law_s13 : SS :=
    sAsg (eOwn (eCallN m_Book_init 2 (eCons (eV 2) (eCons (law_c1) (eNil))))) (gD 11)
noncomputable def law_b3 : SS :=
    sIf (qOr (qB (eBin (gEqD false) (eCB gLen (eCons (eV 9) (eNil))) (eC (.int 0)))) (qB (eBin (gEqD true) (eBin gIx (eV 9) (eUn gNeg (eC (.int 1)))) (eV 10)))) (sDrop (eMu muAppend (eV 9) (eCons (eV 10) (eNil)))) (sSkip)
noncomputable def law_l3 : SS :=
    sFor (iSeq (eV 8)) (gD 10) (law_b3)
noncomputable def law_s11 : SS :=
    sAsg (eOwn (eLst (eNil))) (gD 9)
noncomputable def law_c2 : EE :=
    eLc (iSeq (eV 7)) (gD 20) (qYes) (eCall (m__law_wish) 2 (eCons (eV 20) (eCons (eCB gMin2 (eCons (eV 2) (eCons (eC (.int 5)) (eNil)))) (eNil)))) [20]
noncomputable def law_s10 : SS :=
    sAsg (eOwn (eCB gSort (eCons (eBin gAdd (eCall (m__law_leaf_rows 110) 1 (eCons (eV 6) (eNil))) (law_c2)) (eNil)))) (gD 8)
noncomputable def law_s9 : SS :=
    sAsg (eOwn (eIf (qB (eBin gLtI (eV 4) (eC (.int 2)))) (eSl gSl (eV 0) (oSome (eC (.int 2))) (oSome (eC (.int 32)))) (eSl gSl (eV 0) (oSome (eC (.int 2))) (oSome (eC (.int 28)))))) (gD 7)
noncomputable def law_s8 : SS :=
    sAsg (eOwn (eBin gIx (eCall (m__law_grow 110) 6 (eCons (eV 3) (eCons (eV 2) (eCons (eTup (eNil)) (eCons (eV 5) (eCons (eV 4) (eCons (eC (.int 0)) (eNil)))))))) (eC (.int 0)))) (gD 6)
noncomputable def law_s7 : SS :=
    sIf (qAnd (qB (eBin (gEqD false) (eV 4) (eC (.int 1)))) (qB (eBin (gEqD false) (eBin gModI (eBin gDivI (eV 1) (eC (.int 3375))) (eC (.int 4))) (eC (.int 1))))) (sSeq (sAsg (eOwn (eC (.int 2))) (gD 4))
    (sAsg (eOwn (eBin gAdd (eC (.int 25)) (eBin gModI (eBin gDivI (eV 1) (eC (.int 13500))) (eC (.int 74))))) (gD 5))) (sSkip)
noncomputable def law_s6 : SS :=
    sAsg (eOwn (eIf (qB (eBin (gEqD false) (eV 4) (eC (.int 1)))) (eBin gModI (eBin gDivI (eV 1) (eC (.int 135))) (eC (.int 25))) (eBin gAdd (eC (.int 3)) (eBin gModI (eBin gDivI (eV 1) (eC (.int 135))) (eC (.int 3)))))) (gD 5)
noncomputable def law_s5 : SS :=
    sAsg (eOwn (eCB gIntA (eCons (eBin (gEqD false) (eBin gModI (eBin gDivI (eV 1) (eC (.int 45))) (eC (.int 3))) (eC (.int 1))) (eNil)))) (gD 4)
noncomputable def law_s4 : SS :=
    sAsg (eOwn (eCall (m__law_draws) 2 (eCons (eCall (m__law_seed) 2 (eCons (eV 0) (eCons (eC (.int 1)) (eNil)))) (eCons (eC (.int 64)) (eNil))))) (gD 3)
noncomputable def law_s3 : SS :=
    sIf (qB (eBin (gEqD false) (eBin gModI (eBin gDivI (eV 1) (eC (.int 5))) (eC (.int 9))) (eC (.int 1)))) (sAsg (eOwn (eC (.int 40))) (gD 2)) (sSkip)
noncomputable def law_s2 : SS :=
    sAsg (eOwn (eBin gModI (eV 1) (eC (.int 5)))) (gD 2)
noncomputable def law_s1 : SS :=
    sAsg (eOwn (eCB gAbs (eCons (eCall (m__law_cell) 2 (eCons (eV 0) (eCons (eC (.int 0)) (eNil)))) (eNil)))) (gD 1)
noncomputable def b_law : SS :=
    sSeq (law_s1)
    (sSeq (law_s2)
    (sSeq (law_s3)
    (sSeq (law_s4)
    (sSeq (law_s5)
    (sSeq (law_s6)
    (sSeq (law_s7)
    (sSeq (law_s8)
    (sSeq (law_s9)
    (sSeq (law_s10)
    (sSeq (law_s11)
    (sSeq (law_l3)
    (sSeq (law_s13)
    (sSeq (law_s14)
    (sSeq (law_s15)
    (sSeq (law_s16)
    (sSeq (law_s17)
    (sSeq (law_l2)
    (sRet (eBin (gIsN false) (eCall (m_line_tree_fault) 2 (eCons (eV 11) (eCons (eV 12) (eNil)))) (eC .non))))))))))))))))))))
noncomputable def m_law : Mir := runF 22 b_law
section
variable {P : Program} {w : World} {K : PySem.W.Frag} {mg : Mg} {base : Heap}
theorem body_line_of (B : Bi mg) (C : Co K mg) : Body P w K mg base 0 ["book", "paper"] "line_of" s_line_of b_line_of := fun f cdv A outer s H E hr =>
    ps_one (ps_return (pd_if (pq_cmp (od_eqD hr.units) (pd_ix xd_ix (pd_var 1) (pd_int) (fun _ _ => rfl)) (pd_str) (nomark _)) (pd_ix xd_ix (pd_fld C.fld (pd_var 0)) (pd_ix xd_ix (pd_var 1) (pd_int) (fun _ _ => rfl)) (fun _ _ => rfl)) (pd_ix xd_ix (pd_var 1) (pd_int) (fun _ _ => rfl))))
theorem body_within (B : Bi mg) (C : Co K mg) : Body P w K mg base 0 ["row", "other", "pair"] "within" s_within b_within := fun f cdv A outer s H E hr =>
    ps_one (ps_return (pd_callB (cd_all rfl) (by rfl) B.b_all bo_all (pd_cons (pd_lc (own := [("pair", 2)]) rfl sc_within.nd (pid_seq (pd_var 0)) (blkOk_by (N := ["row", "other", "pair"]) (sc := defScope s_within) (by decide +kernel)) (fun _ _ _ _ _ => pgd_name 2 sc_within.nd) (by decide) (fun _ _ _ _ _ => pts_none) (fun _ _ _ _ _ => pd_cmp (od_inA (un65 hr)) (pd_var 2) (pd_var 1) (by with_unfolding_all rfl))) (pd_nil))))
theorem body_answer_in (B : Bi mg) (C : Co K mg) : Body P w K mg base 0 ["stand", "name", "key", "value"] "answer_in" s_answer_in b_answer_in := fun f cdv A outer s H E hr =>
    ps_cons (ps_loop (passes_of rfl) rfl (pid_seq (pd_var 0)) (pgd_tup 2 rfl (pgd_cons (pgd_name 2 sc_answer_in.nd) (pgd_cons (pgd_name 3 sc_answer_in.nd) (pgd_nil))) (gConsD_len (gConsD_len (gNilD_len)))) (ps_one (ps_iff (pq_cmp (od_eqD hr.units) (pd_var 2) (pd_var 1) (nomark _)) (ps_one (ps_return (pd_var 3))) (ps_nil))))
    (ps_one (ps_return (pd_non)))
theorem body_row_is_right (B : Bi mg) (C : Co K mg) : Body P w K mg base 0 ["names", "row", "last", "name", "value"] "row_is_right" s_row_is_right b_row_is_right := fun f cdv A outer s H E hr =>
    ps_cons (ps_assign (pd_own (pd_int)) (pgd_name 2 sc_row_is_right.nd))
    (ps_cons (ps_loop (passes_of rfl) rfl (pid_seq (pd_var 1)) (pgd_tup 2 rfl (pgd_cons (pgd_name 3 sc_row_is_right.nd) (pgd_cons (pgd_name 4 sc_row_is_right.nd) (pgd_nil))) (gConsD_len (gConsD_len (gNilD_len)))) (ps_cons (ps_iff (PW.pt (pq_or (pq_cmp od_leI (pd_var 3) (pd_var 2) (nomark _)) (pq_or (pq_cmp od_gtI (pd_var 3) (pd_var 0) (nomark _)) (pq_or1 (pq_cmp (od_notInA (un65 hr)) (pd_var 4) (pd_tup (pd_cons (pd_int) (pd_cons (pd_int) (pd_nil)))) (by with_unfolding_all rfl)))))) (ps_one (ps_return (pd_bl))) (ps_nil))
    (ps_one (ps_assign (pd_own (pd_var 3)) (pgd_name 2 sc_row_is_right.nd)))))
    (ps_one (ps_return (pd_bl))))
theorem body_node_fault {m_rec : Mir} {j k : Nat} (B : Bi mg) (C : Co K mg) (o_line_of : FnD P w K mg base "line_of" 1 2 (m_line_of)) (o_within : FnD P w K mg base "within" 1 2 (m_within)) (o_answer_in : FnD P w K mg base "answer_in" 1 2 (m_answer_in)) (o_row_is_right : FnD P w K mg base "row_is_right" 1 2 (m_row_is_right)) (o_node_fault : FnD P w K mg base "node_fault" j 3 m_rec) (hk : j ≤ k) (h0 : 1 ≤ k) : Body P w K mg base k ["book", "paper", "place", "name", "line", "side", "fault", "kind"] "node_fault" s_node_fault (b_node_fault m_rec) := fun f cdv A outer s H E hr =>
    ps_cons (ps_iff (pq_cmp (od_eqD hr.units) (pd_ix xd_ix (pd_var 1) (pd_int) (fun _ _ => rfl)) (pd_str) (nomark _)) (ps_one (ps_return (pd_if (pq_chain od_leI od_ltI (pd_int) (pd_ix xd_ix (pd_var 1) (pd_int) (fun _ _ => rfl)) (pd_callB cd_len (by rfl) B.b_len bo_len (pd_cons (pd_fld C.fld (pd_var 0)) (pd_nil)))) (pd_non) (pd_tup (pd_cons (pd_var 2) (pd_cons (pd_str) (pd_nil))))))) (ps_nil))
    (ps_cons (ps_parD 3 4 rfl sc_node_fault.nd (pd_cons (pd_ix xd_ix (pd_var 1) (pd_int) (fun _ _ => rfl)) (pd_cons (pd_ix xd_ix (pd_var 1) (pd_int) (fun _ _ => rfl)) (pd_nil))))
    (ps_cons (ps_loop (passes_of rfl) rfl (pid_seq (pd_tup (pd_cons (pd_int) (pd_cons (pd_int) (pd_nil))))) (pgd_name 5 sc_node_fault.nd) (ps_cons (ps_assign (pd_own (pd_call (hk := hk) o_node_fault (takes_of rfl rfl rfl rfl) hr (pd_cons (pd_var 0) (pd_cons (pd_ix xd_ix (pd_var 1) (pd_bin od_add (pd_int) (pd_var 5)) (fun _ _ => rfl)) (pd_cons (pd_bin od_add (pd_var 2) (pd_tup (pd_cons (pd_var 5) (pd_nil)))) (pd_nil)))))) (pgd_name 6 sc_node_fault.nd))
    (ps_one (ps_iff (pq_cmp od_notN (pd_var 6) (pd_non) (nomark _)) (ps_one (ps_return (pd_var 6))) (ps_nil)))))
    (ps_cons (ps_iff (pq_not (pq_tru (pd_call (hk := Nat.le_trans (by decide) h0) o_row_is_right (takes_of rfl rfl rfl rfl) hr (pd_cons (pd_fld C.fld (pd_var 0)) (pd_cons (pd_var 4) (pd_nil)))))) (ps_one (ps_return (pd_tup (pd_cons (pd_var 2) (pd_cons (pd_str) (pd_nil)))))) (ps_nil))
    (ps_cons (ps_iff (pq_not (pq_chain od_leI od_leI (pd_int) (pd_var 3) (pd_fld C.fld (pd_var 0)))) (ps_one (ps_return (pd_tup (pd_cons (pd_var 2) (pd_cons (pd_str) (pd_nil)))))) (ps_nil))
    (ps_cons (ps_iff (pq_cmp od_notN (pd_call (hk := Nat.le_trans (by decide) h0) o_answer_in (takes_of rfl rfl rfl rfl) hr (pd_cons (pd_var 4) (pd_cons (pd_var 3) (pd_nil)))) (pd_non) (nomark _)) (ps_one (ps_return (pd_tup (pd_cons (pd_var 2) (pd_cons (pd_str) (pd_nil)))))) (ps_nil))
    (ps_cons (ps_loop (passes_of rfl) rfl (pid_seq (pd_tup (pd_cons (pd_tup (pd_cons (pd_int) (pd_cons (pd_str) (pd_nil)))) (pd_cons (pd_tup (pd_cons (pd_int) (pd_cons (pd_str) (pd_nil)))) (pd_nil))))) (pgd_tup 2 rfl (pgd_cons (pgd_name 5 sc_node_fault.nd) (pgd_cons (pgd_name 7 sc_node_fault.nd) (pgd_nil))) (gConsD_len (gConsD_len (gNilD_len)))) (ps_one (ps_iff (pq_not (pq_tru (pd_call (hk := Nat.le_trans (by decide) h0) o_within (takes_of rfl rfl rfl rfl) hr (pd_cons (pd_call (hk := Nat.le_trans (by decide) h0) o_line_of (takes_of rfl rfl rfl rfl) hr (pd_cons (pd_var 0) (pd_cons (pd_ix xd_ix (pd_var 1) (pd_bin od_add (pd_int) (pd_var 5)) (fun _ _ => rfl)) (pd_nil)))) (pd_cons (pd_bin od_add (pd_var 4) (pd_tup (pd_cons (pd_tup (pd_cons (pd_var 3) (pd_cons (pd_bin od_subI (pd_int) (pd_var 5)) (pd_nil)))) (pd_nil)))) (pd_nil)))))) (ps_one (ps_return (pd_tup (pd_cons (pd_var 2) (pd_cons (pd_var 7) (pd_nil)))))) (ps_nil))))
    (ps_one (ps_return (pd_non)))))))))
theorem body_line_tree_fault (B : Bi mg) (C : Co K mg) (o_line_of : FnD P w K mg base "line_of" 1 2 (m_line_of)) (o_node_fault : FnD P w K mg base "node_fault" 112 3 (m_node_fault 110)) : Body P w K mg base 112 ["book", "paper", "fault"] "line_tree_fault" s_line_tree_fault b_line_tree_fault := fun f cdv A outer s H E hr =>
    ps_cons (ps_assign (pd_own (pd_call o_node_fault (takes_of rfl rfl rfl rfl) hr (pd_cons (pd_var 0) (pd_cons (pd_var 1) (pd_cons (pd_tup (pd_nil)) (pd_nil)))))) (pgd_name 2 sc_line_tree_fault.nd))
    (ps_cons (ps_iff (PW.pt (pq_and (pq_cmp od_isN (pd_var 2) (pd_non) (nomark _)) (pq_and1 (pq_cmp (od_neD hr.units) (pd_call o_line_of (takes_of rfl rfl rfl rfl) hr (pd_cons (pd_var 0) (pd_cons (pd_var 1) (pd_nil)))) (pd_tup (pd_nil)) (nomark _))))) (ps_one (ps_return (pd_tup (pd_cons (pd_tup (pd_nil)) (pd_cons (pd_str) (pd_nil)))))) (ps_nil))
    (ps_one (ps_return (pd_var 2))))
theorem body_with_answer (B : Bi mg) (C : Co K mg) (r_BadName : ErrOk P w K mg base "BadName" 1 ["name"]) : Body P w K mg base 2 ["stand", "name", "answer", "before", "after", "pair"] "with_answer" s_with_answer b_with_answer := fun f cdv A outer s H E hr =>
    ps_cons (ps_assignLc (own := [("pair", 5)]) 3 rfl sc_with_answer.nd (pid_seq (pd_var 0)) (blkOk_by (N := ["stand", "name", "answer", "before", "after", "pair"]) (sc := defScope s_with_answer) (by decide +kernel)) (fun _ _ _ _ _ => pgd_name 5 sc_with_answer.nd) (by decide) (fun _ _ _ _ _ => pts_1 (pq_cmp od_ltI (pd_ix xd_ix (pd_var 5) (pd_int) (fun _ _ => rfl)) (pd_var 1) (nomark _))) (fun _ _ _ _ _ => pd_var 5) (sw_true rfl rfl rfl (by decide +kernel)))
    (ps_cons (ps_assignLc (own := [("pair", 5)]) 4 rfl sc_with_answer.nd (pid_seq (pd_var 0)) (blkOk_by (N := ["stand", "name", "answer", "before", "after", "pair"]) (sc := defScope s_with_answer) (by decide +kernel)) (fun _ _ _ _ _ => pgd_name 5 sc_with_answer.nd) (by decide) (fun _ _ _ _ _ => pts_1 (pq_cmp od_gtI (pd_ix xd_ix (pd_var 5) (pd_int) (fun _ _ => rfl)) (pd_var 1) (nomark _))) (fun _ _ _ _ _ => pd_var 5) (sw_true rfl rfl rfl (by decide +kernel)))
    (ps_cons (ps_iff (pq_cmp od_ltI (pd_bin od_add (pd_callB cd_len (by rfl) B.b_len bo_len (pd_cons (pd_var 3) (pd_nil))) (pd_callB cd_len (by rfl) B.b_len bo_len (pd_cons (pd_var 4) (pd_nil)))) (pd_callB cd_len (by rfl) B.b_len bo_len (pd_cons (pd_var 0) (pd_nil))) (nomark _)) (ps_one (ps_raiseE r_BadName rfl (takes_of rfl rfl rfl rfl) hr (pd_cons (pd_var 1) (pd_nil)))) (ps_nil))
    (ps_one (ps_return (pd_bin od_add (pd_bin od_add (pd_callTy cd_tuple (by rfl) B.b_tuple bo_tuple (pd_cons (pd_var 3) (pd_nil))) (pd_tup (pd_cons (pd_tup (pd_cons (pd_var 1) (pd_cons (pd_var 2) (pd_nil)))) (pd_nil)))) (pd_callTy cd_tuple (by rfl) B.b_tuple bo_tuple (pd_cons (pd_var 4) (pd_nil))))))))
theorem body_walked_tree {m_rec : Mir} {j k : Nat} (B : Bi mg) (C : Co K mg) (o_with_answer : FnD P w K mg base "with_answer" 3 3 (m_with_answer)) (o_answer_in : FnD P w K mg base "answer_in" 1 2 (m_answer_in)) (o_walked_tree : FnD P w K mg base "walked_tree" j 2 m_rec) (hk : j ≤ k) (h0 : 3 ≤ k) : Body P w K mg base k ["paper", "stand", "name", "answer", "sides", "side"] "walked_tree" s_walked_tree (b_walked_tree m_rec) := fun f cdv A outer s H E hr =>
    ps_cons (ps_iff (pq_cmp (od_eqD hr.units) (pd_ix xd_ix (pd_var 0) (pd_int) (fun _ _ => rfl)) (pd_str) (nomark _)) (ps_one (ps_return (pd_tup (pd_cons (pd_str) (pd_cons (pd_ix xd_ix (pd_var 0) (pd_int) (fun _ _ => rfl)) (pd_nil)))))) (ps_nil))
    (ps_cons (ps_assign (pd_own (pd_ix xd_ix (pd_var 0) (pd_int) (fun _ _ => rfl))) (pgd_name 2 sc_walked_tree.nd))
    (ps_cons (ps_assign (pd_own (pd_call (hk := Nat.le_trans (by decide) h0) o_answer_in (takes_of rfl rfl rfl rfl) hr (pd_cons (pd_var 1) (pd_cons (pd_var 2) (pd_nil))))) (pgd_name 3 sc_walked_tree.nd))
    (ps_cons (ps_iff (pq_cmp od_notN (pd_var 3) (pd_non) (nomark _)) (ps_one (ps_return (pd_call (hk := hk) o_walked_tree (takes_of rfl rfl rfl rfl) hr (pd_cons (pd_ix xd_ix (pd_var 0) (pd_bin od_add (pd_int) (pd_var 3)) (fun _ _ => rfl)) (pd_cons (pd_var 1) (pd_nil)))))) (ps_nil))
    (ps_cons (ps_assignLc (own := [("side", 5)]) 4 rfl sc_walked_tree.nd (pid_seq (pd_tup (pd_cons (pd_int) (pd_cons (pd_int) (pd_nil))))) (blkOk_by (N := ["paper", "stand", "name", "answer", "sides", "side"]) (sc := defScope s_walked_tree) (by decide +kernel)) (fun _ _ _ _ _ => pgd_name 5 sc_walked_tree.nd) (by decide) (fun _ _ _ _ _ => pts_none) (fun _ _ _ _ _ => pd_call (hk := hk) o_walked_tree takes0 hr (pd_cons (pd_ix xd_ix (pd_var 0) (pd_bin od_add (pd_int) (pd_var 5)) (fun _ _ => rfl)) (pd_cons (pd_call (hk := Nat.le_trans (by decide) h0) o_with_answer takes0 hr (pd_cons (pd_var 1) (pd_cons (pd_var 2) (pd_cons (pd_var 5) (pd_nil))))) (pd_nil)))) (sw_true rfl rfl rfl (by decide +kernel)))
    (ps_one (ps_return (pd_tup (pd_cons (pd_str) (pd_cons (pd_var 2) (pd_cons (pd_ix xd_ix (pd_var 4) (pd_int) (fun _ _ => rfl)) (pd_cons (pd_ix xd_ix (pd_var 4) (pd_int) (fun _ _ => rfl)) (pd_nil))))))))))))
theorem body_lines_tree (B : Bi mg) (C : Co K mg) (o_walked_tree : FnD P w K mg base "walked_tree" 114 2 (m_walked_tree 110)) (o_line_tree_fault : FnD P w K mg base "line_tree_fault" 113 2 (m_line_tree_fault)) (r_BadPaper : ErrOk P w K mg base "BadPaper" 1 ["place", "kind"]) : Body P w K mg base 114 ["book", "paper", "fault"] "lines_tree" s_lines_tree b_lines_tree := fun f cdv A outer s H E hr =>
    ps_cons (ps_assign (pd_own (pd_call o_line_tree_fault (takes_of rfl rfl rfl rfl) hr (pd_cons (pd_var 0) (pd_cons (pd_var 1) (pd_nil))))) (pgd_name 2 sc_lines_tree.nd))
    (ps_cons (ps_iff (pq_cmp od_notN (pd_var 2) (pd_non) (nomark _)) (ps_one (ps_raiseE r_BadPaper rfl (takes_of rfl rfl rfl rfl) hr (pd_cons (pd_ix xd_ix (pd_var 2) (pd_int) (fun _ _ => rfl)) (pd_cons (pd_ix xd_ix (pd_var 2) (pd_int) (fun _ _ => rfl)) (pd_nil))))) (ps_nil))
    (ps_one (ps_return (pd_call o_walked_tree (takes_of rfl rfl rfl rfl) hr (pd_cons (pd_var 1) (pd_cons (pd_tup (pd_nil)) (pd_nil)))))))
theorem body__law_refused (B : Bi mg) (C : Co K mg) (o_lines_tree : FnD P w K mg base "lines_tree" 115 2 (m_lines_tree)) : Body P w K mg base 115 ["book", "paper", "e"] "_law_refused" s__law_refused b__law_refused := fun f cdv A outer s H E hr =>
    ps_cons (ps_tryD C.ex rfl rfl sc__law_refused.nd (takes_of rfl rfl rfl rfl) (fun W_0 pn_0 xe_0 tk_0 hp_0 => ps_one (ps_drop (pd_call o_lines_tree tk_0 hr (pd_cons (pd_var 0) (pd_cons (pd_var 1) (pd_nil)))))) (.as (i := 2) (C.n_BadPaper (by rfl)) rfl rfl (fun a_ oe_ c_ d_ x_ pn_ hm_ hz_ hf_ => ps_cons (ps_iff (PW.pt (pq_or (pq_not (pq_tru (pd_callB (cd_isE C.ki hm_ hz_ hf_) (by rfl) B.b_isinstance bo_isinstance (pd_cons (pd_var 2) (pd_cons (pd_cls (C.k_BookError)) (pd_nil)))))) (pq_or1 (pq_tru (pd_callB (cd_isT C.ki hm_ hz_ hf_) (by rfl) B.b_isinstance bo_isinstance (pd_cons (pd_var 2) (pd_cons (pd_tup (pd_cons (pd_cls (C.k_BadLiar)) (pd_cons (pd_cls (C.k_BadWish)) (pd_nil)))) (pd_nil)))))))) (ps_one (ps_return (pd_tup (pd_cons (pd_str) (pd_cons (pd_int) (pd_nil)))))) (ps_nil))
    (ps_one (ps_return (pd_tup (pd_cons (pd_xf C.xf hm_ hz_ hf_ (pd_var 2)) (pd_cons (pd_xf C.xf hm_ hz_ hf_ (pd_var 2)) (pd_nil))))))) (HdsAt.nil)))
    (ps_one (ps_return (pd_non)))
theorem body__law_same {m_rec : Mir} {j k : Nat} (B : Bi mg) (C : Co K mg) (o__law_same : FnD P w K mg base "_law_same" j 2 m_rec) (hk : j ≤ k) (h0 : 0 ≤ k) : Body P w K mg base k ["actual", "expected", "k"] "_law_same" s__law_same (b__law_same m_rec) := fun f cdv A outer s H E hr =>
    ps_cons (ps_iff (pq_tru (pd_callB cd_isi (by rfl) B.b_isinstance bo_isinstance (pd_cons (pd_var 1) (pd_cons (pd_ty (by rfl) B.b_tuple bo_tuple) (pd_nil))))) (ps_cons (ps_iff (PW.pt (pq_or (pq_not (pq_tru (pd_callB cd_isi (by rfl) B.b_isinstance bo_isinstance (pd_cons (pd_var 0) (pd_cons (pd_ty (by rfl) B.b_tuple bo_tuple) (pd_nil)))))) (pq_or1 (pq_cmp (od_neD hr.units) (pd_callB cd_len (by rfl) B.b_len bo_len (pd_cons (pd_var 0) (pd_nil))) (pd_callB cd_len (by rfl) B.b_len bo_len (pd_cons (pd_var 1) (pd_nil))) (nomark _))))) (ps_one (ps_return (pd_bl))) (ps_nil))
    (ps_cons (ps_loop (passes_of rfl) rfl (pid_range1 B.b_range (pd_cons (pd_callB cd_len (by rfl) B.b_len bo_len (pd_cons (pd_var 1) (pd_nil))) (pd_nil))) (pgd_name 2 sc__law_same.nd) (ps_one (ps_iff (pq_not (pq_tru (pd_call (hk := hk) o__law_same (takes_of rfl rfl rfl rfl) hr (pd_cons (pd_ix xd_ix (pd_var 0) (pd_var 2) (fun _ _ => rfl)) (pd_cons (pd_ix xd_ix (pd_var 1) (pd_var 2) (fun _ _ => rfl)) (pd_nil)))))) (ps_one (ps_return (pd_bl))) (ps_nil))))
    (ps_one (ps_return (pd_bl))))) (ps_nil))
    (ps_cons (ps_iff (pq_tru (pd_callB cd_isi (by rfl) B.b_isinstance bo_isinstance (pd_cons (pd_var 1) (pd_cons (pd_ty (by rfl) B.b_str bo_str) (pd_nil))))) (ps_one (ps_return (pd_and (pd_callB cd_isi (by rfl) B.b_isinstance bo_isinstance (pd_cons (pd_var 0) (pd_cons (pd_ty (by rfl) B.b_str bo_str) (pd_nil)))) (pd_one (pd_cmp (od_eqD hr.units) (pd_var 0) (pd_var 1) (nomark _)))))) (ps_nil))
    (ps_one (ps_return (pd_and (pd_callB cd_isi (by rfl) B.b_isinstance bo_isinstance (pd_cons (pd_var 0) (pd_cons (pd_ty (by rfl) B.b_int bo_int) (pd_nil)))) (pd_and (pd_not (pd_callB cd_isi (by rfl) B.b_isinstance bo_isinstance (pd_cons (pd_var 0) (pd_cons (pd_ty (by rfl) B.b_bool bo_bool) (pd_nil))))) (pd_one (pd_cmp (od_eqD hr.units) (pd_var 0) (pd_var 1) (nomark _))))))))
theorem body__law_leaf_rows {m_rec : Mir} {j k : Nat} (B : Bi mg) (C : Co K mg) (o__law_leaf_rows : FnD P w K mg base "_law_leaf_rows" j 1 m_rec) (hk : j ≤ k) (h0 : 0 ≤ k) : Body P w K mg base k ["paper"] "_law_leaf_rows" s__law_leaf_rows (b__law_leaf_rows m_rec) := fun f cdv A outer s H E hr =>
    ps_cons (ps_iff (pq_cmp (od_eqD hr.units) (pd_ix xd_ix (pd_var 0) (pd_int) (fun _ _ => rfl)) (pd_str) (nomark _)) (ps_one (ps_return (pd_lst (pd_cons (pd_ix xd_ix (pd_var 0) (pd_int) (fun _ _ => rfl)) (pd_nil))))) (ps_nil))
    (ps_one (ps_return (pd_bin od_add (pd_call (hk := hk) o__law_leaf_rows (takes_of rfl rfl rfl rfl) hr (pd_cons (pd_ix xd_ix (pd_var 0) (pd_int) (fun _ _ => rfl)) (pd_nil))) (pd_call (hk := hk) o__law_leaf_rows (takes_of rfl rfl rfl rfl) hr (pd_cons (pd_ix xd_ix (pd_var 0) (pd_int) (fun _ _ => rfl)) (pd_nil))))))
theorem body_line_tree_leaves {m_rec : Mir} {j k : Nat} (B : Bi mg) (C : Co K mg) (o_line_tree_leaves : FnD P w K mg base "line_tree_leaves" j 1 m_rec) (hk : j ≤ k) (h0 : 0 ≤ k) : Body P w K mg base k ["paper"] "line_tree_leaves" s_line_tree_leaves (b_line_tree_leaves m_rec) := fun f cdv A outer s H E hr =>
    ps_cons (ps_iff (pq_cmp (od_eqD hr.units) (pd_ix xd_ix (pd_var 0) (pd_int) (fun _ _ => rfl)) (pd_str) (nomark _)) (ps_one (ps_return (pd_int))) (ps_nil))
    (ps_one (ps_return (pd_bin od_add (pd_call (hk := hk) o_line_tree_leaves (takes_of rfl rfl rfl rfl) hr (pd_cons (pd_ix xd_ix (pd_var 0) (pd_int) (fun _ _ => rfl)) (pd_nil))) (pd_call (hk := hk) o_line_tree_leaves (takes_of rfl rfl rfl rfl) hr (pd_cons (pd_ix xd_ix (pd_var 0) (pd_int) (fun _ _ => rfl)) (pd_nil))))))
theorem body__law_line (B : Bi mg) (C : Co K mg) : Body P w K mg base 0 ["wishes", "paper"] "_law_line" s__law_line b__law_line := fun f cdv A outer s H E hr =>
    ps_one (ps_return (pd_if (pq_cmp (od_eqD hr.units) (pd_ix xd_ix (pd_var 1) (pd_int) (fun _ _ => rfl)) (pd_str) (nomark _)) (pd_ix xd_ix (pd_var 0) (pd_ix xd_ix (pd_var 1) (pd_int) (fun _ _ => rfl)) (fun _ _ => rfl)) (pd_ix xd_ix (pd_var 1) (pd_int) (fun _ _ => rfl))))
theorem body__law_right_row (B : Bi mg) (C : Co K mg) : Body P w K mg base 0 ["names", "row", "last", "word"] "_law_right_row" s__law_right_row b__law_right_row := fun f cdv A outer s H E hr =>
    ps_cons (ps_assign (pd_own (pd_int)) (pgd_name 2 sc__law_right_row.nd))
    (ps_cons (ps_loop (passes_of rfl) rfl (pid_seq (pd_var 1)) (pgd_name 3 sc__law_right_row.nd) (ps_cons (ps_iff (PW.pt (pq_or (pq_not (pq_chain od_ltI od_leI (pd_var 2) (pd_ix xd_ix (pd_var 3) (pd_int) (fun _ _ => rfl)) (pd_var 0))) (pq_or1 (pq_cmp (od_notInA (un65 hr)) (pd_ix xd_ix (pd_var 3) (pd_int) (fun _ _ => rfl)) (pd_tup (pd_cons (pd_int) (pd_cons (pd_int) (pd_nil)))) (by with_unfolding_all rfl))))) (ps_one (ps_return (pd_bl))) (ps_nil))
    (ps_one (ps_assign (pd_own (pd_ix xd_ix (pd_var 3) (pd_int) (fun _ _ => rfl))) (pgd_name 2 sc__law_right_row.nd)))))
    (ps_one (ps_return (pd_bl))))
theorem body__law_node_fault {m_rec : Mir} {j k : Nat} (B : Bi mg) (C : Co K mg) (o__law_line : FnD P w K mg base "_law_line" 1 2 (m__law_line)) (o__law_right_row : FnD P w K mg base "_law_right_row" 1 2 (m__law_right_row)) (o__law_node_fault : FnD P w K mg base "_law_node_fault" j 4 m_rec) (hk : j ≤ k) (h0 : 1 ≤ k) : Body P w K mg base k ["names", "wishes", "paper", "place", "side", "fault", "allowed", "word"] "_law_node_fault" s__law_node_fault (b__law_node_fault m_rec) := fun f cdv A outer s H E hr =>
    ps_cons (ps_iff (pq_cmp (od_eqD hr.units) (pd_ix xd_ix (pd_var 2) (pd_int) (fun _ _ => rfl)) (pd_str) (nomark _)) (ps_one (ps_return (pd_if (pq_chain od_leI od_ltI (pd_int) (pd_ix xd_ix (pd_var 2) (pd_int) (fun _ _ => rfl)) (pd_callB cd_len (by rfl) B.b_len bo_len (pd_cons (pd_var 1) (pd_nil)))) (pd_non) (pd_tup (pd_cons (pd_var 3) (pd_cons (pd_str) (pd_nil))))))) (ps_nil))
    (ps_cons (ps_loop (passes_of rfl) rfl (pid_range1 B.b_range (pd_cons (pd_int) (pd_nil))) (pgd_name 4 sc__law_node_fault.nd) (ps_cons (ps_assign (pd_own (pd_call (hk := hk) o__law_node_fault (takes_of rfl rfl rfl rfl) hr (pd_cons (pd_var 0) (pd_cons (pd_var 1) (pd_cons (pd_ix xd_ix (pd_var 2) (pd_bin od_add (pd_int) (pd_var 4)) (fun _ _ => rfl)) (pd_cons (pd_bin od_add (pd_var 3) (pd_tup (pd_cons (pd_var 4) (pd_nil)))) (pd_nil))))))) (pgd_name 5 sc__law_node_fault.nd))
    (ps_one (ps_iff (pq_cmp od_notN (pd_var 5) (pd_non) (nomark _)) (ps_one (ps_return (pd_var 5))) (ps_nil)))))
    (ps_cons (ps_iff (pq_not (pq_tru (pd_call (hk := Nat.le_trans (by decide) h0) o__law_right_row (takes_of rfl rfl rfl rfl) hr (pd_cons (pd_var 0) (pd_cons (pd_ix xd_ix (pd_var 2) (pd_int) (fun _ _ => rfl)) (pd_nil)))))) (ps_one (ps_return (pd_tup (pd_cons (pd_var 3) (pd_cons (pd_str) (pd_nil)))))) (ps_nil))
    (ps_cons (ps_iff (pq_not (pq_chain od_leI od_leI (pd_int) (pd_ix xd_ix (pd_var 2) (pd_int) (fun _ _ => rfl)) (pd_var 0))) (ps_one (ps_return (pd_tup (pd_cons (pd_var 3) (pd_cons (pd_str) (pd_nil)))))) (ps_nil))
    (ps_cons (ps_iff (pq_cmp (od_inA (un65 hr)) (pd_ix xd_ix (pd_var 2) (pd_int) (fun _ _ => rfl)) (pd_lc (own := [("word", 7)]) rfl sc__law_node_fault.nd (pid_seq (pd_ix xd_ix (pd_var 2) (pd_int) (fun _ _ => rfl))) (blkOk_by (N := ["names", "wishes", "paper", "place", "side", "fault", "allowed", "word"]) (sc := defScope s__law_node_fault) (by decide +kernel)) (fun _ _ _ _ _ => pgd_name 7 sc__law_node_fault.nd) (by decide) (fun _ _ _ _ _ => pts_none) (fun _ _ _ _ _ => pd_ix xd_ix (pd_var 7) (pd_int) (fun _ _ => rfl))) (by with_unfolding_all rfl)) (ps_one (ps_return (pd_tup (pd_cons (pd_var 3) (pd_cons (pd_str) (pd_nil)))))) (ps_nil))
    (ps_cons (ps_loop (passes_of rfl) rfl (pid_range1 B.b_range (pd_cons (pd_int) (pd_nil))) (pgd_name 4 sc__law_node_fault.nd) (ps_cons (ps_assign (pd_own (pd_bin od_add (pd_lc (own := [("word", 7)]) rfl sc__law_node_fault.nd (pid_seq (pd_ix xd_ix (pd_var 2) (pd_int) (fun _ _ => rfl))) (blkOk_by (N := ["names", "wishes", "paper", "place", "side", "fault", "allowed", "word"]) (sc := defScope s__law_node_fault) (by decide +kernel)) (fun _ _ _ _ _ => pgd_name 7 sc__law_node_fault.nd) (by decide) (fun _ _ _ _ _ => pts_none) (fun _ _ _ _ _ => pd_var 7)) (pd_lst (pd_cons (pd_tup (pd_cons (pd_ix xd_ix (pd_var 2) (pd_int) (fun _ _ => rfl)) (pd_cons (pd_bin od_subI (pd_int) (pd_var 4)) (pd_nil)))) (pd_nil))))) (pgd_name 6 sc__law_node_fault.nd))
    (ps_one (ps_iff (pq_cmp od_gtI (pd_callB cd_len (by rfl) B.b_len bo_len (pd_cons (pd_lc (own := [("word", 7)]) rfl sc__law_node_fault.nd (pid_seq (pd_call (hk := Nat.le_trans (by decide) h0) o__law_line (takes_of rfl rfl rfl rfl) hr (pd_cons (pd_var 1) (pd_cons (pd_ix xd_ix (pd_var 2) (pd_bin od_add (pd_int) (pd_var 4)) (fun _ _ => rfl)) (pd_nil))))) (blkOk_by (N := ["names", "wishes", "paper", "place", "side", "fault", "allowed", "word"]) (sc := defScope s__law_node_fault) (by decide +kernel)) (fun _ _ _ _ _ => pgd_name 7 sc__law_node_fault.nd) (by decide) (fun _ _ _ _ _ => pts_1 (pq_cmp (od_notInA (un65 hr)) (pd_var 7) (pd_var 6) (by with_unfolding_all rfl))) (fun _ _ _ _ _ => pd_var 7)) (pd_nil))) (pd_int) (nomark _)) (ps_one (ps_return (pd_tup (pd_cons (pd_var 3) (pd_cons (pd_ix xd_ix (pd_lst (pd_cons (pd_str) (pd_cons (pd_str) (pd_nil)))) (pd_var 4) (fun _ _ => rfl)) (pd_nil)))))) (ps_nil)))))
    (ps_one (ps_return (pd_non))))))))
theorem body__law_due (B : Bi mg) (C : Co K mg) (o__law_line : FnD P w K mg base "_law_line" 1 2 (m__law_line)) (o__law_node_fault : FnD P w K mg base "_law_node_fault" 112 4 (m__law_node_fault 110)) : Body P w K mg base 112 ["names", "wishes", "paper", "fault"] "_law_due" s__law_due b__law_due := fun f cdv A outer s H E hr =>
    ps_cons (ps_assign (pd_own (pd_call o__law_node_fault (takes_of rfl rfl rfl rfl) hr (pd_cons (pd_var 0) (pd_cons (pd_var 1) (pd_cons (pd_var 2) (pd_cons (pd_tup (pd_nil)) (pd_nil))))))) (pgd_name 3 sc__law_due.nd))
    (ps_cons (ps_iff (PW.pt (pq_and (pq_cmp od_isN (pd_var 3) (pd_non) (nomark _)) (pq_and1 (pq_cmp od_gtI (pd_callB cd_len (by rfl) B.b_len bo_len (pd_cons (pd_call o__law_line (takes_of rfl rfl rfl rfl) hr (pd_cons (pd_var 1) (pd_cons (pd_var 2) (pd_nil)))) (pd_nil))) (pd_int) (nomark _))))) (ps_one (ps_return (pd_tup (pd_cons (pd_tup (pd_nil)) (pd_cons (pd_str) (pd_nil)))))) (ps_nil))
    (ps_one (ps_return (pd_var 3))))
theorem body__law_judged (B : Bi mg) (C : Co K mg) (o__law_refused : FnD P w K mg base "_law_refused" 116 2 (m__law_refused)) (o__law_same : FnD P w K mg base "_law_same" 6 2 (m__law_same 5)) (o_line_tree_fault : FnD P w K mg base "line_tree_fault" 113 2 (m_line_tree_fault)) (o__law_leaf_rows : FnD P w K mg base "_law_leaf_rows" 111 1 (m__law_leaf_rows 110)) (o_line_tree_leaves : FnD P w K mg base "line_tree_leaves" 111 1 (m_line_tree_leaves 110)) (o__law_due : FnD P w K mg base "_law_due" 113 3 (m__law_due)) : Body P w K mg base 116 ["names", "wishes", "book", "paper", "due"] "_law_judged" s__law_judged b__law_judged := fun f cdv A outer s H E hr =>
    ps_cons (ps_assign (pd_own (pd_call o__law_due (takes_of rfl rfl rfl rfl) hr (pd_cons (pd_var 0) (pd_cons (pd_var 1) (pd_cons (pd_var 3) (pd_nil)))))) (pgd_name 4 sc__law_judged.nd))
    (ps_cons (ps_iff (pq_not (pq_tru (pd_call o__law_same (takes_of rfl rfl rfl rfl) hr (pd_cons (pd_call o_line_tree_leaves (takes_of rfl rfl rfl rfl) hr (pd_cons (pd_var 3) (pd_nil))) (pd_cons (pd_callB cd_len (by rfl) B.b_len bo_len (pd_cons (pd_call o__law_leaf_rows (takes_of rfl rfl rfl rfl) hr (pd_cons (pd_var 3) (pd_nil))) (pd_nil))) (pd_nil)))))) (ps_one (ps_return (pd_bl))) (ps_nil))
    (ps_cons (ps_iff (pq_cmp od_isN (pd_var 4) (pd_non) (nomark _)) (ps_one (ps_return (pd_and (pd_cmp od_isN (pd_call o_line_tree_fault (takes_of rfl rfl rfl rfl) hr (pd_cons (pd_var 2) (pd_cons (pd_var 3) (pd_nil)))) (pd_non) (nomark _)) (pd_one (pd_cmp od_isN (pd_call o__law_refused (takes_of rfl rfl rfl rfl) hr (pd_cons (pd_var 2) (pd_cons (pd_var 3) (pd_nil)))) (pd_non) (nomark _)))))) (ps_nil))
    (ps_one (ps_return (pd_and (pd_call o__law_same (takes_of rfl rfl rfl rfl) hr (pd_cons (pd_call o_line_tree_fault (takes_of rfl rfl rfl rfl) hr (pd_cons (pd_var 2) (pd_cons (pd_var 3) (pd_nil)))) (pd_cons (pd_var 4) (pd_nil)))) (pd_one (pd_call o__law_same (takes_of rfl rfl rfl rfl) hr (pd_cons (pd_call o__law_refused (takes_of rfl rfl rfl rfl) hr (pd_cons (pd_var 2) (pd_cons (pd_var 3) (pd_nil)))) (pd_cons (pd_var 4) (pd_nil))))))))))
theorem body__law_node (B : Bi mg) (C : Co K mg) : Body P w K mg base 0 ["paper", "place", "node", "side"] "_law_node" s__law_node b__law_node := fun f cdv A outer s H E hr =>
    ps_cons (ps_assign (pd_own (pd_var 0)) (pgd_name 2 sc__law_node.nd))
    (ps_cons (ps_loop (passes_of rfl) rfl (pid_seq (pd_var 1)) (pgd_name 3 sc__law_node.nd) (ps_one (ps_assign (pd_own (pd_ix xd_ix (pd_var 2) (pd_bin od_add (pd_int) (pd_var 3)) (fun _ _ => rfl))) (pgd_name 2 sc__law_node.nd))))
    (ps_one (ps_return (pd_var 2))))
theorem body__law_put {m_rec : Mir} {j k : Nat} (B : Bi mg) (C : Co K mg) (o__law_put : FnD P w K mg base "_law_put" j 3 m_rec) (hk : j ≤ k) (h0 : 0 ≤ k) : Body P w K mg base k ["paper", "place", "node"] "_law_put" s__law_put (b__law_put m_rec) := fun f cdv A outer s H E hr =>
    ps_cons (ps_iff (pq_cmp (od_eqD hr.units) (pd_callB cd_len (by rfl) B.b_len bo_len (pd_cons (pd_var 1) (pd_nil))) (pd_int) (nomark _)) (ps_one (ps_return (pd_var 2))) (ps_nil))
    (ps_cons (ps_iff (pq_cmp (od_eqD hr.units) (pd_ix xd_ix (pd_var 1) (pd_int) (fun _ _ => rfl)) (pd_int) (nomark _)) (ps_one (ps_return (pd_tup (pd_cons (pd_ix xd_ix (pd_var 0) (pd_int) (fun _ _ => rfl)) (pd_cons (pd_ix xd_ix (pd_var 0) (pd_int) (fun _ _ => rfl)) (pd_cons (pd_ix xd_ix (pd_var 0) (pd_int) (fun _ _ => rfl)) (pd_cons (pd_call (hk := hk) o__law_put (takes_of rfl rfl rfl rfl) hr (pd_cons (pd_ix xd_ix (pd_var 0) (pd_int) (fun _ _ => rfl)) (pd_cons (pd_slice sd_sl (pd_var 1) (pd_osome (pd_int)) (pd_onone)) (pd_cons (pd_var 2) (pd_nil))))) (pd_cons (pd_ix xd_ix (pd_var 0) (pd_int) (fun _ _ => rfl)) (pd_nil))))))))) (ps_nil))
    (ps_one (ps_return (pd_tup (pd_cons (pd_ix xd_ix (pd_var 0) (pd_int) (fun _ _ => rfl)) (pd_cons (pd_ix xd_ix (pd_var 0) (pd_int) (fun _ _ => rfl)) (pd_cons (pd_ix xd_ix (pd_var 0) (pd_int) (fun _ _ => rfl)) (pd_cons (pd_ix xd_ix (pd_var 0) (pd_int) (fun _ _ => rfl)) (pd_cons (pd_call (hk := hk) o__law_put (takes_of rfl rfl rfl rfl) hr (pd_cons (pd_ix xd_ix (pd_var 0) (pd_int) (fun _ _ => rfl)) (pd_cons (pd_slice sd_sl (pd_var 1) (pd_osome (pd_int)) (pd_onone)) (pd_cons (pd_var 2) (pd_nil))))) (pd_nil))))))))))
theorem body__law_spoilt_line (B : Bi mg) (C : Co K mg) : Body P w K mg base 0 ["names", "line", "draw", "other", "at", "name", "way", "bad", "word"] "_law_spoilt_line" s__law_spoilt_line b__law_spoilt_line := fun f cdv A outer s H E hr =>
    ps_cons (ps_assign (pd_own (pd_bin od_modI (pd_callTy cd_intA (by rfl) B.b_int bo_int (pd_cons (pd_var 3) (pd_nil))) (pd_bin od_add (pd_callB cd_len (by rfl) B.b_len bo_len (pd_cons (pd_var 1) (pd_nil))) (pd_int)))) (pgd_name 4 sc__law_spoilt_line.nd))
    (ps_cons (ps_assign (pd_own (pd_bin od_add (pd_int) (pd_bin od_modI (pd_callTy cd_intA (by rfl) B.b_int bo_int (pd_cons (pd_var 3) (pd_nil))) (pd_var 0)))) (pgd_name 5 sc__law_spoilt_line.nd))
    (ps_cons (ps_assign (pd_own (pd_bin od_modI (pd_bin od_divI (pd_var 2) (pd_int)) (pd_int))) (pgd_name 6 sc__law_spoilt_line.nd))
    (ps_cons (ps_iff (pq_cmp (od_eqD hr.units) (pd_var 6) (pd_int) (nomark _)) (ps_one (ps_return (pd_bin od_add (pd_slice sd_sl (pd_var 1) (pd_onone) (pd_osome (pd_var 4))) (pd_slice sd_sl (pd_var 1) (pd_osome (pd_bin od_add (pd_var 4) (pd_int))) (pd_onone))))) (ps_nil))
    (ps_cons (ps_iff (pq_cmp (od_eqD hr.units) (pd_var 6) (pd_int) (nomark _)) (ps_one (ps_return (pd_callTy cd_tuple (by rfl) B.b_tuple bo_tuple (pd_cons (pd_callB (cd_sort hr.units) (by rfl) B.b_sorted bo_sorted (pd_cons (pd_bin od_add (pd_lc (own := [("word", 8)]) rfl sc__law_spoilt_line.nd (pid_seq (pd_var 1)) (blkOk_by (N := ["names", "line", "draw", "other", "at", "name", "way", "bad", "word"]) (sc := defScope s__law_spoilt_line) (by decide +kernel)) (fun _ _ _ _ _ => pgd_name 8 sc__law_spoilt_line.nd) (by decide) (fun _ _ _ _ _ => pts_none) (fun _ _ _ _ _ => pd_var 8)) (pd_lst (pd_cons (pd_tup (pd_cons (pd_var 5) (pd_cons (pd_bin od_modI (pd_bin od_divI (pd_var 3) (pd_int)) (pd_int)) (pd_nil)))) (pd_nil)))) (pd_nil))) (pd_nil))))) (ps_nil))
    (ps_cons (ps_iff (pq_cmp (od_eqD hr.units) (pd_var 6) (pd_int) (nomark _)) (ps_one (ps_return (pd_callTy cd_tuple (by rfl) B.b_tuple bo_tuple (pd_cons (pd_lc (own := [("word", 8)]) rfl sc__law_spoilt_line.nd (pid_rev B.b_reversed (pd_callTy cd_list (by rfl) B.b_list bo_list (pd_cons (pd_var 1) (pd_nil)))) (blkOk_by (N := ["names", "line", "draw", "other", "at", "name", "way", "bad", "word"]) (sc := defScope s__law_spoilt_line) (by decide +kernel)) (fun _ _ _ _ _ => pgd_name 8 sc__law_spoilt_line.nd) (by decide) (fun _ _ _ _ _ => pts_none) (fun _ _ _ _ _ => pd_var 8)) (pd_nil))))) (ps_nil))
    (ps_cons (ps_iff (pq_cmp (od_eqD hr.units) (pd_var 6) (pd_int) (nomark _)) (ps_one (ps_return (pd_bin od_add (pd_bin od_add (pd_slice sd_sl (pd_var 1) (pd_onone) (pd_osome (pd_var 4))) (pd_slice sd_sl (pd_slice sd_sl (pd_var 1) (pd_onone) (pd_osome (pd_var 4))) (pd_osome (pd_bin od_subI (pd_callB cd_len (by rfl) B.b_len bo_len (pd_cons (pd_slice sd_sl (pd_var 1) (pd_onone) (pd_osome (pd_var 4))) (pd_nil))) (pd_int))) (pd_onone))) (pd_slice sd_sl (pd_var 1) (pd_osome (pd_var 4)) (pd_onone))))) (ps_nil))
    (ps_cons (ps_iff (pq_cmp (od_eqD hr.units) (pd_var 6) (pd_int) (nomark _)) (ps_cons (ps_assign (pd_own (pd_ix xd_ix (pd_lst (pd_cons (pd_tup (pd_cons (pd_int) (pd_cons (pd_int) (pd_nil)))) (pd_cons (pd_tup (pd_cons (pd_bin od_add (pd_var 0) (pd_int)) (pd_cons (pd_int) (pd_nil)))) (pd_cons (pd_tup (pd_cons (pd_var 5) (pd_cons (pd_int) (pd_nil)))) (pd_cons (pd_tup (pd_cons (pd_var 5) (pd_cons (pd_bin od_subI (pd_int) (pd_int)) (pd_nil)))) (pd_cons (pd_tup (pd_cons (pd_bin od_add (pd_bin od_add (pd_var 0) (pd_int)) (pd_var 3)) (pd_cons (pd_int) (pd_nil)))) (pd_nil))))))) (pd_bin od_modI (pd_callTy cd_intA (by rfl) B.b_int bo_int (pd_cons (pd_var 3) (pd_nil))) (pd_int)) (fun _ _ => rfl))) (pgd_name 7 sc__law_spoilt_line.nd))
    (ps_one (ps_return (pd_bin od_add (pd_bin od_add (pd_slice sd_sl (pd_var 1) (pd_onone) (pd_osome (pd_var 4))) (pd_tup (pd_cons (pd_var 7) (pd_nil)))) (pd_slice sd_sl (pd_var 1) (pd_osome (pd_var 4)) (pd_onone)))))) (ps_nil))
    (ps_one (ps_return (pd_callTy cd_tuple (by rfl) B.b_tuple bo_tuple (pd_cons (pd_lc (own := [("word", 8)]) rfl sc__law_spoilt_line.nd (pid_seq (pd_var 1)) (blkOk_by (N := ["names", "line", "draw", "other", "at", "name", "way", "bad", "word"]) (sc := defScope s__law_spoilt_line) (by decide +kernel)) (fun _ _ _ _ _ => pgd_name 8 sc__law_spoilt_line.nd) (by decide) (fun _ _ _ _ _ => pts_none) (fun _ _ _ _ _ => pd_if (pq_cmp (od_inA (un65 hr)) (pd_var 8) (pd_slice sd_sl (pd_var 1) (pd_osome (pd_var 4)) (pd_osome (pd_bin od_add (pd_var 4) (pd_int)))) (by with_unfolding_all rfl)) (pd_tup (pd_cons (pd_ix xd_ix (pd_var 8) (pd_int) (fun _ _ => rfl)) (pd_cons (pd_bin od_subI (pd_int) (pd_ix xd_ix (pd_var 8) (pd_int) (fun _ _ => rfl))) (pd_nil)))) (pd_var 8))) (pd_nil))))))))))))
theorem body__law_spoilt (B : Bi mg) (C : Co K mg) (o__law_spoilt_line : FnD P w K mg base "_law_spoilt_line" 1 4 (m__law_spoilt_line)) : Body P w K mg base 1 ["names", "many", "node", "draw", "other", "way"] "_law_spoilt" s__law_spoilt b__law_spoilt := fun f cdv A outer s H E hr =>
    ps_cons (ps_iff (pq_cmp (od_eqD hr.units) (pd_ix xd_ix (pd_var 2) (pd_int) (fun _ _ => rfl)) (pd_str) (nomark _)) (ps_one (ps_return (pd_tup (pd_cons (pd_str) (pd_cons (pd_ix xd_ix (pd_lst (pd_cons (pd_bin od_add (pd_var 1) (pd_var 4)) (pd_cons (pd_bin od_subI (pd_bin od_subI (pd_int) (pd_int)) (pd_var 4)) (pd_cons (pd_bin od_modI (pd_callTy cd_intA (by rfl) B.b_int bo_int (pd_cons (pd_var 4) (pd_nil))) (pd_var 1)) (pd_cons (pd_var 1) (pd_cons (pd_bin od_modI (pd_callTy cd_intA (by rfl) B.b_int bo_int (pd_cons (pd_bin od_add (pd_var 4) (pd_int)) (pd_nil))) (pd_var 1)) (pd_nil))))))) (pd_bin od_modI (pd_var 3) (pd_int)) (fun _ _ => rfl)) (pd_nil)))))) (ps_nil))
    (ps_cons (ps_assign (pd_own (pd_bin od_modI (pd_var 3) (pd_int))) (pgd_name 5 sc__law_spoilt.nd))
    (ps_cons (ps_iff (pq_cmp (od_eqD hr.units) (pd_var 5) (pd_int) (nomark _)) (ps_one (ps_return (pd_tup (pd_cons (pd_str) (pd_cons (pd_ix xd_ix (pd_lst (pd_cons (pd_int) (pd_cons (pd_bin od_subI (pd_bin od_subI (pd_int) (pd_int)) (pd_var 4)) (pd_cons (pd_bin od_add (pd_var 0) (pd_int)) (pd_cons (pd_bin od_add (pd_bin od_add (pd_var 0) (pd_int)) (pd_var 4)) (pd_nil)))))) (pd_bin od_modI (pd_bin od_divI (pd_var 3) (pd_int)) (pd_int)) (fun _ _ => rfl)) (pd_cons (pd_ix xd_ix (pd_var 2) (pd_int) (fun _ _ => rfl)) (pd_cons (pd_ix xd_ix (pd_var 2) (pd_int) (fun _ _ => rfl)) (pd_cons (pd_ix xd_ix (pd_var 2) (pd_int) (fun _ _ => rfl)) (pd_nil))))))))) (ps_nil))
    (ps_cons (ps_iff (pq_cmp od_ltI (pd_var 5) (pd_int) (nomark _)) (ps_one (ps_return (pd_tup (pd_cons (pd_str) (pd_cons (pd_bin od_add (pd_int) (pd_bin od_modI (pd_callTy cd_intA (by rfl) B.b_int bo_int (pd_cons (pd_var 4) (pd_nil))) (pd_var 0))) (pd_cons (pd_ix xd_ix (pd_var 2) (pd_int) (fun _ _ => rfl)) (pd_cons (pd_ix xd_ix (pd_var 2) (pd_int) (fun _ _ => rfl)) (pd_cons (pd_ix xd_ix (pd_var 2) (pd_int) (fun _ _ => rfl)) (pd_nil))))))))) (ps_nil))
    (ps_cons (ps_iff (pq_cmp (od_eqD hr.units) (pd_var 5) (pd_int) (nomark _)) (ps_one (ps_return (pd_tup (pd_cons (pd_str) (pd_cons (pd_ix xd_ix (pd_var 2) (pd_int) (fun _ _ => rfl)) (pd_cons (pd_ix xd_ix (pd_var 2) (pd_int) (fun _ _ => rfl)) (pd_cons (pd_ix xd_ix (pd_var 2) (pd_int) (fun _ _ => rfl)) (pd_cons (pd_ix xd_ix (pd_var 2) (pd_int) (fun _ _ => rfl)) (pd_nil))))))))) (ps_nil))
    (ps_cons (ps_iff (pq_cmp (od_eqD hr.units) (pd_var 5) (pd_int) (nomark _)) (ps_one (ps_return (pd_ix xd_ix (pd_var 2) (pd_bin od_add (pd_int) (pd_bin od_modI (pd_var 4) (pd_int))) (fun _ _ => rfl)))) (ps_nil))
    (ps_one (ps_return (pd_tup (pd_cons (pd_str) (pd_cons (pd_ix xd_ix (pd_var 2) (pd_int) (fun _ _ => rfl)) (pd_cons (pd_call o__law_spoilt_line (takes_of rfl rfl rfl rfl) hr (pd_cons (pd_var 0) (pd_cons (pd_ix xd_ix (pd_var 2) (pd_int) (fun _ _ => rfl)) (pd_cons (pd_var 3) (pd_cons (pd_var 4) (pd_nil)))))) (pd_cons (pd_ix xd_ix (pd_var 2) (pd_int) (fun _ _ => rfl)) (pd_cons (pd_ix xd_ix (pd_var 2) (pd_int) (fun _ _ => rfl)) (pd_nil))))))))))))))
theorem body__law_places {m_rec : Mir} {j k : Nat} (B : Bi mg) (C : Co K mg) (o__law_places : FnD P w K mg base "_law_places" j 2 m_rec) (hk : j ≤ k) (h0 : 0 ≤ k) : Body P w K mg base k ["paper", "place"] "_law_places" s__law_places (b__law_places m_rec) := fun f cdv A outer s H E hr =>
    ps_cons (ps_iff (pq_cmp (od_eqD hr.units) (pd_ix xd_ix (pd_var 0) (pd_int) (fun _ _ => rfl)) (pd_str) (nomark _)) (ps_one (ps_return (pd_lst (pd_cons (pd_var 1) (pd_nil))))) (ps_nil))
    (ps_one (ps_return (pd_bin od_add (pd_bin od_add (pd_call (hk := hk) o__law_places (takes_of rfl rfl rfl rfl) hr (pd_cons (pd_ix xd_ix (pd_var 0) (pd_int) (fun _ _ => rfl)) (pd_cons (pd_bin od_add (pd_var 1) (pd_tup (pd_cons (pd_int) (pd_nil)))) (pd_nil)))) (pd_call (hk := hk) o__law_places (takes_of rfl rfl rfl rfl) hr (pd_cons (pd_ix xd_ix (pd_var 0) (pd_int) (fun _ _ => rfl)) (pd_cons (pd_bin od_add (pd_var 1) (pd_tup (pd_cons (pd_int) (pd_nil)))) (pd_nil))))) (pd_lst (pd_cons (pd_var 1) (pd_nil))))))
theorem body__law_cell (B : Bi mg) (C : Co K mg) : Body P w K mg base 0 ["script", "k"] "_law_cell" s__law_cell b__law_cell := fun f cdv A outer s H E hr =>
    ps_cons (ps_iff (pq_cmp od_ltI (pd_var 1) (pd_callB cd_len (by rfl) B.b_len bo_len (pd_cons (pd_var 0) (pd_nil))) (nomark _)) (ps_one (ps_return (pd_ix xd_ix (pd_var 0) (pd_var 1) (fun _ _ => rfl)))) (ps_nil))
    (ps_one (ps_return (pd_int)))
theorem body__law_seed (B : Bi mg) (C : Co K mg) (o__law_cell : FnD P w K mg base "_law_cell" 1 2 (m__law_cell)) : Body P w K mg base 1 ["script", "k", "first", "seed", "cell"] "_law_seed" s__law_seed b__law_seed := fun f cdv A outer s H E hr =>
    ps_cons (ps_assign (pd_own (pd_callB cd_abs (by rfl) B.b_abs bo_abs (pd_cons (pd_call o__law_cell (takes_of rfl rfl rfl rfl) hr (pd_cons (pd_var 0) (pd_cons (pd_var 1) (pd_nil)))) (pd_nil)))) (pgd_name 2 sc__law_seed.nd))
    (ps_cons (ps_iff (pq_cmp od_geI (pd_var 2) (pd_bin od_powI (pd_int) (pd_int)) (nomark _)) (ps_one (ps_return (pd_var 2))) (ps_nil))
    (ps_cons (ps_assign (pd_own (pd_bin od_add (pd_int) (pd_var 1))) (pgd_name 3 sc__law_seed.nd))
    (ps_cons (ps_loop (passes_of rfl) rfl (pid_seq (pd_var 0)) (pgd_name 4 sc__law_seed.nd) (ps_one (ps_assign (pd_own (pd_bin od_modI (pd_callTy cd_intA (by rfl) B.b_int bo_int (pd_cons (pd_bin od_add (pd_bin od_mulA (pd_var 3) (pd_int)) (pd_callB cd_abs (by rfl) B.b_abs bo_abs (pd_cons (pd_var 4) (pd_nil)))) (pd_nil))) (pd_int))) (pgd_name 3 sc__law_seed.nd))))
    (ps_one (ps_return (pd_var 3))))))
theorem body__law_draws (B : Bi mg) (C : Co K mg) : Body P w K mg base 0 ["cell", "many", "draws", "rest", "k", "state", "other"] "_law_draws" s__law_draws b__law_draws := fun f cdv A outer s H E hr =>
    ps_cons (ps_assign (pd_own (pd_lst (pd_nil))) (pgd_name 2 sc__law_draws.nd))
    (ps_cons (ps_assign (pd_own (pd_callB cd_abs (by rfl) B.b_abs bo_abs (pd_cons (pd_var 0) (pd_nil)))) (pgd_name 3 sc__law_draws.nd))
    (ps_cons (ps_iff (pq_cmp od_geI (pd_var 3) (pd_bin od_powI (pd_int) (pd_int)) (nomark _)) (ps_cons (ps_loop (passes_of rfl) rfl (pid_range1 B.b_range (pd_cons (pd_var 1) (pd_nil))) (pgd_name 4 sc__law_draws.nd) (ps_cons (ps_drop (pd_mu PySem.F.slot_list_append PySem.F.type_list_append mu_append (pd_var 2) (pd_cons (pd_bin od_modI (pd_var 3) (pd_int)) (pd_nil))))
    (ps_one (ps_assign (pd_own (pd_bin od_divI (pd_var 3) (pd_int))) (pgd_name 3 sc__law_draws.nd)))))
    (ps_one (ps_return (pd_var 2)))) (ps_nil))
    (ps_cons (ps_assign (pd_own (pd_bin od_add (pd_var 3) (pd_int))) (pgd_name 5 sc__law_draws.nd))
    (ps_cons (ps_loop (passes_of rfl) rfl (pid_range1 B.b_range (pd_cons (pd_var 1) (pd_nil))) (pgd_name 4 sc__law_draws.nd) (ps_cons (ps_assign (pd_own (pd_bin od_modI (pd_callTy cd_intA (by rfl) B.b_int bo_int (pd_cons (pd_bin od_add (pd_bin od_add (pd_bin od_mulA (pd_var 5) (pd_int)) (pd_bin od_mulA (pd_int) (pd_var 4))) (pd_int)) (pd_nil))) (pd_int))) (pgd_name 5 sc__law_draws.nd))
    (ps_cons (ps_assign (pd_own (pd_bin od_modI (pd_callTy cd_intA (by rfl) B.b_int bo_int (pd_cons (pd_bin od_add (pd_bin od_mulA (pd_var 5) (pd_int)) (pd_var 4)) (pd_nil))) (pd_int))) (pgd_name 6 sc__law_draws.nd))
    (ps_one (ps_drop (pd_mu PySem.F.slot_list_append PySem.F.type_list_append mu_append (pd_var 2) (pd_cons (pd_bin od_modI (pd_bin od_divI (pd_var 6) (pd_int)) (pd_int)) (pd_nil))))))))
    (ps_one (ps_return (pd_var 2)))))))
theorem body__law_indexed {m_rec : Mir} {j k : Nat} (B : Bi mg) (C : Co K mg) (o__law_indexed : FnD P w K mg base "_law_indexed" j 2 m_rec) (hk : j ≤ k) (h0 : 0 ≤ k) : Body P w K mg base k ["paper", "wishes"] "_law_indexed" s__law_indexed (b__law_indexed m_rec) := fun f cdv A outer s H E hr =>
    ps_cons (ps_iff (pq_cmp (od_eqD hr.units) (pd_ix xd_ix (pd_var 0) (pd_int) (fun _ _ => rfl)) (pd_str) (nomark _)) (ps_one (ps_return (pd_tup (pd_cons (pd_str) (pd_cons (pd_ml PySem.F.slot_list_index PySem.F.type_list_index (mt_index (un65 hr)) (pd_var 1) (pd_cons (pd_ix xd_ix (pd_var 0) (pd_int) (fun _ _ => rfl)) (pd_nil))) (pd_nil)))))) (ps_nil))
    (ps_one (ps_return (pd_tup (pd_cons (pd_str) (pd_cons (pd_ix xd_ix (pd_var 0) (pd_int) (fun _ _ => rfl)) (pd_cons (pd_ix xd_ix (pd_var 0) (pd_int) (fun _ _ => rfl)) (pd_cons (pd_call (hk := hk) o__law_indexed (takes_of rfl rfl rfl rfl) hr (pd_cons (pd_ix xd_ix (pd_var 0) (pd_int) (fun _ _ => rfl)) (pd_cons (pd_var 1) (pd_nil)))) (pd_cons (pd_call (hk := hk) o__law_indexed (takes_of rfl rfl rfl rfl) hr (pd_cons (pd_ix xd_ix (pd_var 0) (pd_int) (fun _ _ => rfl)) (pd_cons (pd_var 1) (pd_nil)))) (pd_nil)))))))))
theorem body_plain_row (B : Bi mg) (C : Co K mg) : Body P w K mg base 0 ["row", "name", "value"] "plain_row" s_plain_row b_plain_row := fun f cdv A outer s H E hr =>
    ps_one (ps_return (pd_callTy cd_tuple (by rfl) B.b_tuple bo_tuple (pd_cons (pd_callB (cd_sort hr.units) (by rfl) B.b_sorted bo_sorted (pd_cons (pd_lc (own := [("name", 1), ("value", 2)]) rfl sc_plain_row.nd (pid_seq (pd_var 0)) (blkOk_by (N := ["row", "name", "value"]) (sc := defScope s_plain_row) (by decide +kernel)) (fun _ _ _ _ _ => pgd_tup 2 rfl (pgd_cons (pgd_name 1 sc_plain_row.nd) (pgd_cons (pgd_name 2 sc_plain_row.nd) (pgd_nil))) (gConsD_len (gConsD_len (gNilD_len)))) (by decide) (fun _ _ _ _ _ => pts_none) (fun _ _ _ _ _ => pd_tup (pd_cons (pd_var 1) (pd_cons (pd_var 2) (pd_nil))))) (pd_nil))) (pd_nil))))
theorem body_Book_init (B : Bi mg) (C : Co K mg) (o_row_is_right : FnD P w K mg base "row_is_right" 1 2 (m_row_is_right)) (o_plain_row : FnD P w K mg base "plain_row" 1 1 (m_plain_row)) (r_TooMany : ErrOk P w K mg base "TooMany" 1 ["many"]) (r_BadWish : ErrOk P w K mg base "BadWish" 1 ["index"]) (r_BadNames : ErrOk P w K mg base "BadNames" 1 ["names"]) : BodyI P w K mg base 2 ["self", "names", "wishes", "rows", "at", "wish", "row"] "Book.__init__" s_Book_init b_Book_init := fun f cdv A outer s Hs H E hr =>
    ps_cons (ps_iff (PW.pt (pq_or (pq_cmp od_ltI (pd_var 1) (pd_int) (nomark _)) (pq_or1 (pq_cmp od_gtI (pd_var 1) (pd_cv C.cv (pd_cls (C.k_Book))) (nomark _))))) (ps_one (ps_raiseE r_BadNames rfl (takes_of rfl rfl rfl rfl) hr (pd_cons (pd_var 1) (pd_nil)))) (ps_nil))
    (ps_cons (ps_assign (pd_own (pd_lst (pd_nil))) (pgd_name 3 sc_Book_init.nd))
    (ps_cons (ps_loop (passes_of rfl) rfl (pid_enum B.b_enumerate (pd_cons (pd_var 2) (pd_nil))) (pgd_tup 2 rfl (pgd_cons (pgd_name 4 sc_Book_init.nd) (pgd_cons (pgd_name 5 sc_Book_init.nd) (pgd_nil))) (gConsD_len (gConsD_len (gNilD_len)))) (ps_cons (ps_assign (pd_own (pd_call o_plain_row (takes_of rfl rfl rfl rfl) hr (pd_cons (pd_var 5) (pd_nil)))) (pgd_name 6 sc_Book_init.nd))
    (ps_cons (ps_iff (pq_not (pq_tru (pd_call o_row_is_right (takes_of rfl rfl rfl rfl) hr (pd_cons (pd_var 1) (pd_cons (pd_var 6) (pd_nil)))))) (ps_one (ps_raiseE r_BadWish rfl (takes_of rfl rfl rfl rfl) hr (pd_cons (pd_var 4) (pd_nil)))) (ps_nil))
    (ps_one (ps_drop (pd_mu PySem.F.slot_list_append PySem.F.type_list_append mu_append (pd_var 3) (pd_cons (pd_var 6) (pd_nil))))))))
    (ps_cons (ps_assign (pd_own (pd_sortSet rfl hr.units (by rfl) B.b_sorted bo_sorted (by rfl) B.b_set bo_set (pd_var 3))) (pgd_name 3 sc_Book_init.nd))
    (ps_cons (ps_iff (pq_cmp od_gtI (pd_callB cd_len (by rfl) B.b_len bo_len (pd_cons (pd_var 3) (pd_nil))) (pd_cv C.cv (pd_cls (C.k_Book))) (nomark _)) (ps_one (ps_raiseE r_TooMany rfl (takes_of rfl rfl rfl rfl) hr (pd_cons (pd_callB cd_len (by rfl) B.b_len bo_len (pd_cons (pd_var 3) (pd_nil))) (pd_nil)))) (ps_nil))
    (ps_cons (ps_setF C.fld (pd_var 0) (pd_var 1))
    (ps_one (ps_setF C.fld (pd_var 0) (pd_callTy cd_tuple (by rfl) B.b_tuple bo_tuple (pd_cons (pd_var 3) (pd_nil))))))))))
theorem body__law_wish (B : Bi mg) (C : Co K mg) (o__law_draws : FnD P w K mg base "_law_draws" 1 2 (m__law_draws)) : Body P w K mg base 1 ["cell", "names", "draws", "k"] "_law_wish" s__law_wish b__law_wish := fun f cdv A outer s H E hr =>
    ps_cons (ps_assign (pd_own (pd_call o__law_draws (takes_of rfl rfl rfl rfl) hr (pd_cons (pd_var 0) (pd_cons (pd_var 1) (pd_nil))))) (pgd_name 2 sc__law_wish.nd))
    (ps_one (ps_return (pd_callTy cd_tuple (by rfl) B.b_tuple bo_tuple (pd_cons (pd_lc (own := [("k", 3)]) rfl sc__law_wish.nd (pid_range1 B.b_range (pd_cons (pd_var 1) (pd_nil))) (blkOk_by (N := ["cell", "names", "draws", "k"]) (sc := defScope s__law_wish) (by decide +kernel)) (fun _ _ _ _ _ => pgd_name 3 sc__law_wish.nd) (by decide) (fun _ _ _ _ _ => pts_1 (pq_cmp od_gtI (pd_bin od_modI (pd_ix xd_ix (pd_var 2) (pd_var 3) (fun _ _ => rfl)) (pd_int)) (pd_int) (nomark _))) (fun _ _ _ _ _ => pd_tup (pd_cons (pd_bin od_add (pd_var 3) (pd_int)) (pd_cons (pd_bin od_subI (pd_bin od_modI (pd_ix xd_ix (pd_var 2) (pd_var 3) (fun _ _ => rfl)) (pd_int)) (pd_int)) (pd_nil))))) (pd_nil)))))
theorem body__law_part (B : Bi mg) (C : Co K mg) : Body P w K mg base 0 ["draw", "row", "part", "rest", "word"] "_law_part" s__law_part b__law_part := fun f cdv A outer s H E hr =>
    ps_cons (ps_assign (pd_own (pd_lst (pd_nil))) (pgd_name 2 sc__law_part.nd))
    (ps_cons (ps_assign (pd_own (pd_var 0)) (pgd_name 3 sc__law_part.nd))
    (ps_cons (ps_loop (passes_of rfl) rfl (pid_seq (pd_var 1)) (pgd_name 4 sc__law_part.nd) (ps_cons (ps_iff (pq_cmp (od_eqD hr.units) (pd_bin od_modI (pd_callTy cd_intA (by rfl) B.b_int bo_int (pd_cons (pd_var 3) (pd_nil))) (pd_int)) (pd_int) (nomark _)) (ps_one (ps_drop (pd_mu PySem.F.slot_list_append PySem.F.type_list_append mu_append (pd_var 2) (pd_cons (pd_var 4) (pd_nil))))) (ps_nil))
    (ps_one (ps_assign (pd_own (pd_bin od_divI (pd_var 3) (pd_int))) (pgd_name 3 sc__law_part.nd)))))
    (ps_one (ps_return (pd_callTy cd_tuple (by rfl) B.b_tuple bo_tuple (pd_cons (pd_var 2) (pd_nil)))))))
theorem body__law_grow {m_rec : Mir} {j k : Nat} (B : Bi mg) (C : Co K mg) (o__law_part : FnD P w K mg base "_law_part" 1 2 (m__law_part)) (o__law_grow : FnD P w K mg base "_law_grow" j 6 m_rec) (hk : j ≤ k) (h0 : 1 ≤ k) : Body P w K mg base k ((["draws", "names", "allowed", "deep", "narrow", "at", "draw", "other", "line", "free", "name", "less", "more", "left", "right"] : List Str) ++ (["word"] : List Str)) "_law_grow" s__law_grow (b__law_grow m_rec) := fun f cdv A outer s H E hr =>
    ps_cons (ps_assign (pd_own (pd_ix xd_ix (pd_var 0) (pd_bin od_modI (pd_var 5) (pd_callB cd_len (by rfl) B.b_len bo_len (pd_cons (pd_var 0) (pd_nil)))) (fun _ _ => rfl))) (pgd_name 6 sc__law_grow.nd))
    (ps_cons (ps_assign (pd_own (pd_ix xd_ix (pd_var 0) (pd_bin od_modI (pd_bin od_add (pd_bin od_mulA (pd_var 5) (pd_int)) (pd_int)) (pd_callB cd_len (by rfl) B.b_len bo_len (pd_cons (pd_var 0) (pd_nil)))) (fun _ _ => rfl))) (pgd_name 7 sc__law_grow.nd))
    (ps_cons (ps_assign (pd_own (pd_if (pq_cmp od_gtI (pd_bin od_modI (pd_var 7) (pd_int)) (pd_int) (nomark _)) (pd_var 2) (pd_call (hk := Nat.le_trans (by decide) h0) o__law_part (takes_of rfl rfl rfl rfl) hr (pd_cons (pd_var 6) (pd_cons (pd_var 2) (pd_nil)))))) (pgd_name 8 sc__law_grow.nd))
    (ps_cons (ps_iff (PW.pt (pq_and (pq_cmp od_gtI (pd_var 4) (pd_int) (nomark _)) (pq_and1 (pq_cmp (od_eqD hr.units) (pd_callB cd_len (by rfl) B.b_len bo_len (pd_cons (pd_var 8) (pd_nil))) (pd_var 1) (nomark _))))) (ps_one (ps_assign (pd_own (pd_slice sd_sl (pd_var 8) (pd_osome (pd_int)) (pd_onone))) (pgd_name 8 sc__law_grow.nd))) (ps_nil))
    (ps_cons (ps_assignLc (own := [("name", 10)]) 9 rfl sc__law_grow.nd (pid_range2 B.b_range (pd_cons (pd_int) (pd_cons (pd_bin od_add (pd_var 1) (pd_int)) (pd_nil)))) (blkOk_by (N := ((["draws", "names", "allowed", "deep", "narrow", "at", "draw", "other", "line", "free", "name", "less", "more", "left", "right"] : List Str) ++ (["word"] : List Str))) (sc := defScope s__law_grow) (by decide +kernel)) (fun _ _ _ _ _ => pgd_name 10 sc__law_grow.nd) (by decide) (fun _ _ _ _ _ => pts_1 (pq_cmp (od_notInA (un65 hr)) (pd_var 10) (pd_lc (own := [("word", 15)]) rfl sc__law_grow.nd (pid_seq (pd_var 8)) (blkOk_by (by kernel_rfl)) (fun _ _ _ _ _ => pgd_name 15 sc__law_grow.nd) (by decide) (fun _ _ _ _ _ => pts_none) (fun _ _ _ _ _ => pd_ix xd_ix (pd_var 15) (pd_int) (fun _ _ => rfl))) (by with_unfolding_all rfl))) (fun _ _ _ _ _ => pd_var 10) (sw_true rfl rfl rfl (by decide +kernel)))
    (ps_cons (ps_iff (PW.pt (pq_or (pq_cmp od_ltI (pd_var 3) (pd_int) (nomark _)) (pq_or (pq_cmp (od_eqD hr.units) (pd_callB cd_len (by rfl) B.b_len bo_len (pd_cons (pd_var 9) (pd_nil))) (pd_int) (nomark _)) (pq_or1 (PW.pt (pq_and (pq_cmp od_ltI (pd_var 4) (pd_int) (nomark _)) (pq_and (pq_cmp od_gtI (pd_callB cd_len (by rfl) B.b_len bo_len (pd_cons (pd_var 2) (pd_nil))) (pd_int) (nomark _)) (pq_and1 (pq_cmp (od_eqD hr.units) (pd_bin od_modI (pd_var 6) (pd_int)) (pd_int) (nomark _)))))))))) (ps_one (ps_return (pd_tup (pd_cons (pd_tup (pd_cons (pd_str) (pd_cons (pd_if (pq_cmp od_gtI (pd_callB cd_len (by rfl) B.b_len bo_len (pd_cons (pd_var 8) (pd_nil))) (pd_int) (nomark _)) (pd_var 8) (pd_var 2)) (pd_nil)))) (pd_cons (pd_bin od_add (pd_var 5) (pd_int)) (pd_nil)))))) (ps_nil))
    (ps_cons (ps_assign (pd_own (pd_ix xd_ix (pd_var 9) (pd_bin od_modI (pd_bin od_add (pd_var 6) (pd_var 7)) (pd_callB cd_len (by rfl) B.b_len bo_len (pd_cons (pd_var 9) (pd_nil)))) (fun _ _ => rfl))) (pgd_name 10 sc__law_grow.nd))
    (ps_cons (ps_assign (pd_own (pd_callTy cd_tuple (by rfl) B.b_tuple bo_tuple (pd_cons (pd_callB (cd_sort hr.units) (by rfl) B.b_sorted bo_sorted (pd_cons (pd_bin od_add (pd_lc (own := [("word", 15)]) rfl sc__law_grow.nd (pid_seq (pd_var 8)) (blkOk_by (N := ((["draws", "names", "allowed", "deep", "narrow", "at", "draw", "other", "line", "free", "name", "less", "more", "left", "right"] : List Str) ++ (["word"] : List Str))) (sc := defScope s__law_grow) (by decide +kernel)) (fun _ _ _ _ _ => pgd_name 15 sc__law_grow.nd) (by decide) (fun _ _ _ _ _ => pts_none) (fun _ _ _ _ _ => pd_var 15)) (pd_lst (pd_cons (pd_tup (pd_cons (pd_var 10) (pd_cons (pd_int) (pd_nil)))) (pd_nil)))) (pd_nil))) (pd_nil)))) (pgd_name 11 sc__law_grow.nd))
    (ps_cons (ps_assign (pd_own (pd_callTy cd_tuple (by rfl) B.b_tuple bo_tuple (pd_cons (pd_callB (cd_sort hr.units) (by rfl) B.b_sorted bo_sorted (pd_cons (pd_bin od_add (pd_lc (own := [("word", 15)]) rfl sc__law_grow.nd (pid_seq (pd_var 8)) (blkOk_by (N := ((["draws", "names", "allowed", "deep", "narrow", "at", "draw", "other", "line", "free", "name", "less", "more", "left", "right"] : List Str) ++ (["word"] : List Str))) (sc := defScope s__law_grow) (by decide +kernel)) (fun _ _ _ _ _ => pgd_name 15 sc__law_grow.nd) (by decide) (fun _ _ _ _ _ => pts_none) (fun _ _ _ _ _ => pd_var 15)) (pd_lst (pd_cons (pd_tup (pd_cons (pd_var 10) (pd_cons (pd_int) (pd_nil)))) (pd_nil)))) (pd_nil))) (pd_nil)))) (pgd_name 12 sc__law_grow.nd))
    (ps_cons (ps_assign (pd_own (pd_call (hk := hk) o__law_grow (takes_of rfl rfl rfl rfl) hr (pd_cons (pd_var 0) (pd_cons (pd_var 1) (pd_cons (pd_var 11) (pd_cons (pd_if (PW.pt (pq_and (pq_cmp od_gtI (pd_var 4) (pd_int) (nomark _)) (pq_and1 (pq_cmp (od_eqD hr.units) (pd_bin od_modI (pd_var 7) (pd_int)) (pd_int) (nomark _))))) (pd_int) (pd_bin od_subI (pd_var 3) (pd_int))) (pd_cons (pd_var 4) (pd_cons (pd_bin od_add (pd_var 5) (pd_int)) (pd_nil))))))))) (pgd_name 13 sc__law_grow.nd))
    (ps_cons (ps_assign (pd_own (pd_call (hk := hk) o__law_grow (takes_of rfl rfl rfl rfl) hr (pd_cons (pd_var 0) (pd_cons (pd_var 1) (pd_cons (pd_var 12) (pd_cons (pd_if (PW.pt (pq_and (pq_cmp od_gtI (pd_var 4) (pd_int) (nomark _)) (pq_and1 (pq_cmp (od_eqD hr.units) (pd_bin od_modI (pd_var 7) (pd_int)) (pd_int) (nomark _))))) (pd_int) (pd_bin od_subI (pd_var 3) (pd_int))) (pd_cons (pd_var 4) (pd_cons (pd_ix xd_ix (pd_var 13) (pd_int) (fun _ _ => rfl)) (pd_nil))))))))) (pgd_name 14 sc__law_grow.nd))
    (ps_one (ps_return (pd_tup (pd_cons (pd_tup (pd_cons (pd_str) (pd_cons (pd_var 10) (pd_cons (pd_var 8) (pd_cons (pd_ix xd_ix (pd_var 13) (pd_int) (fun _ _ => rfl)) (pd_cons (pd_ix xd_ix (pd_var 14) (pd_int) (fun _ _ => rfl)) (pd_nil))))))) (pd_cons (pd_ix xd_ix (pd_var 14) (pd_int) (fun _ _ => rfl)) (pd_nil))))))))))))))))
theorem body_law (B : Bi mg) (C : Co K mg) (o_line_tree_fault : FnD P w K mg base "line_tree_fault" 113 2 (m_line_tree_fault)) (o__law_judged : FnD P w K mg base "_law_judged" 117 4 (m__law_judged)) (o__law_node : FnD P w K mg base "_law_node" 1 2 (m__law_node)) (o__law_put : FnD P w K mg base "_law_put" 111 3 (m__law_put 110)) (o__law_spoilt : FnD P w K mg base "_law_spoilt" 2 5 (m__law_spoilt)) (o__law_places : FnD P w K mg base "_law_places" 111 2 (m__law_places 110)) (o__law_seed : FnD P w K mg base "_law_seed" 2 2 (m__law_seed)) (o__law_draws : FnD P w K mg base "_law_draws" 1 2 (m__law_draws)) (o__law_due : FnD P w K mg base "_law_due" 113 3 (m__law_due)) (o__law_indexed : FnD P w K mg base "_law_indexed" 111 2 (m__law_indexed 110)) (o_Book : MkD P w K mg base "Book" 3 2 m_Book_init) (o__law_leaf_rows : FnD P w K mg base "_law_leaf_rows" 111 1 (m__law_leaf_rows 110)) (o__law_wish : FnD P w K mg base "_law_wish" 2 2 (m__law_wish)) (o__law_grow : FnD P w K mg base "_law_grow" 112 6 (m__law_grow 110)) (o__law_cell : FnD P w K mg base "_law_cell" 1 2 (m__law_cell)) : Body P w K mg base 117 ((["script", "first", "names", "draws", "narrow", "deep", "grown", "free", "rows", "wishes", "row", "book", "right", "places", "more"] : List Str) ++ (["k", "paper", "j", "place", "node", "cell", "wish"] : List Str)) "law" s_law b_law := fun f cdv A outer s H E hr =>
    ps_cons (ps_assign (pd_own (pd_callB cd_abs (by rfl) B.b_abs bo_abs (pd_cons (pd_call o__law_cell (takes_of rfl rfl rfl rfl) hr (pd_cons (pd_var 0) (pd_cons (pd_int) (pd_nil)))) (pd_nil)))) (pgd_name 1 sc_law.nd))
    (ps_cons (ps_assign (pd_own (pd_bin od_modI (pd_var 1) (pd_int))) (pgd_name 2 sc_law.nd))
    (ps_cons (ps_iff (pq_cmp (od_eqD hr.units) (pd_bin od_modI (pd_bin od_divI (pd_var 1) (pd_int)) (pd_int)) (pd_int) (nomark _)) (ps_one (ps_assign (pd_own (pd_int)) (pgd_name 2 sc_law.nd))) (ps_nil))
    (ps_cons (ps_assign (pd_own (pd_call o__law_draws (takes_of rfl rfl rfl rfl) hr (pd_cons (pd_call o__law_seed (takes_of rfl rfl rfl rfl) hr (pd_cons (pd_var 0) (pd_cons (pd_int) (pd_nil)))) (pd_cons (pd_int) (pd_nil))))) (pgd_name 3 sc_law.nd))
    (ps_cons (ps_assign (pd_own (pd_callTy cd_intA (by rfl) B.b_int bo_int (pd_cons (pd_cmp (od_eqD hr.units) (pd_bin od_modI (pd_bin od_divI (pd_var 1) (pd_int)) (pd_int)) (pd_int) (nomark _)) (pd_nil)))) (pgd_name 4 sc_law.nd))
    (ps_cons (ps_assign (pd_own (pd_if (pq_cmp (od_eqD hr.units) (pd_var 4) (pd_int) (nomark _)) (pd_bin od_modI (pd_bin od_divI (pd_var 1) (pd_int)) (pd_int)) (pd_bin od_add (pd_int) (pd_bin od_modI (pd_bin od_divI (pd_var 1) (pd_int)) (pd_int))))) (pgd_name 5 sc_law.nd))
    (ps_cons (ps_iff (PW.pt (pq_and (pq_cmp (od_eqD hr.units) (pd_var 4) (pd_int) (nomark _)) (pq_and1 (pq_cmp (od_eqD hr.units) (pd_bin od_modI (pd_bin od_divI (pd_var 1) (pd_int)) (pd_int)) (pd_int) (nomark _))))) (ps_cons (ps_assign (pd_own (pd_int)) (pgd_name 4 sc_law.nd))
    (ps_one (ps_assign (pd_own (pd_bin od_add (pd_int) (pd_bin od_modI (pd_bin od_divI (pd_var 1) (pd_int)) (pd_int)))) (pgd_name 5 sc_law.nd)))) (ps_nil))
    (ps_cons (ps_assign (pd_own (pd_ix xd_ix (pd_call o__law_grow (takes_of rfl rfl rfl rfl) hr (pd_cons (pd_var 3) (pd_cons (pd_var 2) (pd_cons (pd_tup (pd_nil)) (pd_cons (pd_var 5) (pd_cons (pd_var 4) (pd_cons (pd_int) (pd_nil)))))))) (pd_int) (fun _ _ => rfl))) (pgd_name 6 sc_law.nd))
    (ps_cons (ps_assign (pd_own (pd_if (pq_cmp od_ltI (pd_var 4) (pd_int) (nomark _)) (pd_slice sd_sl (pd_var 0) (pd_osome (pd_int)) (pd_osome (pd_int))) (pd_slice sd_sl (pd_var 0) (pd_osome (pd_int)) (pd_osome (pd_int))))) (pgd_name 7 sc_law.nd))
    (ps_cons (ps_assign (pd_own (pd_callB (cd_sort hr.units) (by rfl) B.b_sorted bo_sorted (pd_cons (pd_bin od_add (pd_call o__law_leaf_rows (takes_of rfl rfl rfl rfl) hr (pd_cons (pd_var 6) (pd_nil))) (pd_lc (own := [("cell", 20)]) rfl sc_law.nd (pid_seq (pd_var 7)) (blkOk_by (N := ((["script", "first", "names", "draws", "narrow", "deep", "grown", "free", "rows", "wishes", "row", "book", "right", "places", "more"] : List Str) ++ (["k", "paper", "j", "place", "node", "cell", "wish"] : List Str))) (sc := defScope s_law) (by decide +kernel)) (fun _ _ _ _ _ => pgd_name 20 sc_law.nd) (by decide) (fun _ _ _ _ _ => pts_none) (fun _ _ _ _ _ => pd_call o__law_wish takes0 hr (pd_cons (pd_var 20) (pd_cons (pd_callB (cd_min2 rfl) (by rfl) B.b_min bo_min (pd_cons (pd_var 2) (pd_cons (pd_int) (pd_nil)))) (pd_nil)))))) (pd_nil)))) (pgd_name 8 sc_law.nd))
    (ps_cons (ps_assign (pd_own (pd_lst (pd_nil))) (pgd_name 9 sc_law.nd))
    (ps_cons (ps_loop (passes_of rfl) rfl (pid_seq (pd_var 8)) (pgd_name 10 sc_law.nd) (ps_one (ps_iff (PW.pt (pq_or (pq_cmp (od_eqD hr.units) (pd_callB cd_len (by rfl) B.b_len bo_len (pd_cons (pd_var 9) (pd_nil))) (pd_int) (nomark _)) (pq_or1 (pq_cmp (od_neD hr.units) (pd_ix xd_ix (pd_var 9) (pd_un ud_neg (pd_int)) (fun _ _ => rfl)) (pd_var 10) (nomark _))))) (ps_one (ps_drop (pd_mu PySem.F.slot_list_append PySem.F.type_list_append mu_append (pd_var 9) (pd_cons (pd_var 10) (pd_nil))))) (ps_nil))))
    (ps_cons (ps_assign (pd_own (pd_makeN o_Book (takes_of rfl rfl rfl rfl) hr (pd_cons (pd_var 2) (pd_cons (pd_lc (own := [("wish", 21)]) rfl sc_law.nd (pid_seq (pd_var 9)) (blkOk_by (N := ((["script", "first", "names", "draws", "narrow", "deep", "grown", "free", "rows", "wishes", "row", "book", "right", "places", "more"] : List Str) ++ (["k", "paper", "j", "place", "node", "cell", "wish"] : List Str))) (sc := defScope s_law) (by decide +kernel)) (fun _ _ _ _ _ => pgd_name 21 sc_law.nd) (by decide) (fun _ _ _ _ _ => pts_none) (fun _ _ _ _ _ => pd_frz (pd_callTy cd_list (by rfl) B.b_list bo_list (pd_cons (pd_var 21) (pd_nil))))) (pd_nil))))) (pgd_name 11 sc_law.nd))
    (ps_cons (ps_assign (pd_own (pd_call o__law_indexed (takes_of rfl rfl rfl rfl) hr (pd_cons (pd_var 6) (pd_cons (pd_var 9) (pd_nil))))) (pgd_name 12 sc_law.nd))
    (ps_cons (ps_iff (PW.pt (pq_or (pq_cmp od_notN (pd_call o__law_due (takes_of rfl rfl rfl rfl) hr (pd_cons (pd_var 2) (pd_cons (pd_var 9) (pd_cons (pd_var 12) (pd_nil))))) (pd_non) (nomark _)) (pq_or1 (pq_not (pq_tru (pd_call o__law_judged (takes_of rfl rfl rfl rfl) hr (pd_cons (pd_var 2) (pd_cons (pd_var 9) (pd_cons (pd_var 11) (pd_cons (pd_var 12) (pd_nil))))))))))) (ps_one (ps_return (pd_bl))) (ps_nil))
    (ps_cons (ps_assign (pd_own (pd_call o__law_places (takes_of rfl rfl rfl rfl) hr (pd_cons (pd_var 12) (pd_cons (pd_tup (pd_nil)) (pd_nil))))) (pgd_name 13 sc_law.nd))
    (ps_cons (ps_assign (pd_own (pd_call o__law_draws (takes_of rfl rfl rfl rfl) hr (pd_cons (pd_call o__law_seed (takes_of rfl rfl rfl rfl) hr (pd_cons (pd_var 0) (pd_cons (pd_int) (pd_nil)))) (pd_cons (pd_int) (pd_nil))))) (pgd_name 14 sc_law.nd))
    (ps_cons (ps_loop (passes_of rfl) rfl (pid_range1 B.b_range (pd_cons (pd_int) (pd_nil))) (pgd_name 15 sc_law.nd) (ps_cons (ps_assign (pd_own (pd_var 12)) (pgd_name 16 sc_law.nd))
    (ps_cons (ps_loop (passes_of rfl) rfl (pid_range1 B.b_range (pd_cons (pd_bin od_add (pd_int) (pd_bin od_modI (pd_var 15) (pd_int))) (pd_nil))) (pgd_name 17 sc_law.nd) (ps_cons (ps_assign (pd_own (pd_ix xd_ix (pd_var 13) (pd_bin od_modI (pd_bin od_add (pd_bin od_add (pd_ix xd_ix (pd_var 14) (pd_bin od_add (pd_bin od_mulA (pd_int) (pd_var 15)) (pd_var 17)) (fun _ _ => rfl)) (pd_bin od_mulA (pd_int) (pd_ix xd_ix (pd_var 14) (pd_bin od_subI (pd_int) (pd_var 15)) (fun _ _ => rfl)))) (pd_var 17)) (pd_callB cd_len (by rfl) B.b_len bo_len (pd_cons (pd_var 13) (pd_nil)))) (fun _ _ => rfl))) (pgd_name 18 sc_law.nd))
    (ps_cons (ps_iff (PW.pt (pq_and (pq_cmp (od_eqD hr.units) (pd_var 17) (pd_int) (nomark _)) (pq_and1 (pq_cmp (od_notInA (un65 hr)) (pd_var 18) (pd_call o__law_places (takes_of rfl rfl rfl rfl) hr (pd_cons (pd_var 16) (pd_cons (pd_tup (pd_nil)) (pd_nil)))) (by with_unfolding_all rfl))))) (ps_one (ps_assign (pd_own (pd_tup (pd_nil))) (pgd_name 18 sc_law.nd))) (ps_nil))
    (ps_cons (ps_assign (pd_own (pd_call o__law_spoilt (takes_of rfl rfl rfl rfl) hr (pd_cons (pd_var 2) (pd_cons (pd_callB cd_len (by rfl) B.b_len bo_len (pd_cons (pd_var 9) (pd_nil))) (pd_cons (pd_call o__law_node (takes_of rfl rfl rfl rfl) hr (pd_cons (pd_var 16) (pd_cons (pd_var 18) (pd_nil)))) (pd_cons (pd_ix xd_ix (pd_var 14) (pd_bin od_add (pd_bin od_add (pd_bin od_mulA (pd_int) (pd_var 15)) (pd_int)) (pd_var 17)) (fun _ _ => rfl)) (pd_cons (pd_ix xd_ix (pd_var 14) (pd_bin od_subI (pd_bin od_add (pd_bin od_mulA (pd_int) (pd_var 15)) (pd_int)) (pd_var 17)) (fun _ _ => rfl)) (pd_nil)))))))) (pgd_name 19 sc_law.nd))
    (ps_one (ps_assign (pd_own (pd_call o__law_put (takes_of rfl rfl rfl rfl) hr (pd_cons (pd_var 16) (pd_cons (pd_var 18) (pd_cons (pd_var 19) (pd_nil)))))) (pgd_name 16 sc_law.nd)))))))
    (ps_cons (ps_iff (pq_cmp od_gtI (pd_var 15) (pd_int) (nomark _)) (ps_one (ps_assign (pd_own (pd_call o__law_node (takes_of rfl rfl rfl rfl) hr (pd_cons (pd_var 12) (pd_cons (pd_ix xd_ix (pd_var 13) (pd_bin od_modI (pd_ix xd_ix (pd_var 14) (pd_var 15) (fun _ _ => rfl)) (pd_callB cd_len (by rfl) B.b_len bo_len (pd_cons (pd_var 13) (pd_nil)))) (fun _ _ => rfl)) (pd_nil))))) (pgd_name 16 sc_law.nd))) (ps_nil))
    (ps_one (ps_iff (pq_not (pq_tru (pd_call o__law_judged (takes_of rfl rfl rfl rfl) hr (pd_cons (pd_var 2) (pd_cons (pd_var 9) (pd_cons (pd_var 11) (pd_cons (pd_var 16) (pd_nil)))))))) (ps_one (ps_return (pd_bl))) (ps_nil)))))))
    (ps_one (ps_return (pd_cmp od_isN (pd_call o_line_tree_fault (takes_of rfl rfl rfl rfl) hr (pd_cons (pd_var 11) (pd_cons (pd_var 12) (pd_nil)))) (pd_non) (nomark _)))))))))))))))))))))
theorem ok_line_of {f_ : Addr} {fd : FuncData} (F : FnP K "line_of" s_line_of f_ fd) (hm : mg "line_of" = some (.ref f_)) (B : Bi mg) (C : Co K mg) : FnD P w K mg base "line_of" 1 2 m_line_of := fnD_mk F hm sc_line_of (body_line_of B C ) (FunD.bindsN F fun _ _ _ _ _ _ us hl => match us, hl with | [_, _], _ => rfl) rfl
theorem ok_within {f_ : Addr} {fd : FuncData} (F : FnP K "within" s_within f_ fd) (hm : mg "within" = some (.ref f_)) (B : Bi mg) (C : Co K mg) : FnD P w K mg base "within" 1 2 m_within := fnD_mk F hm sc_within (body_within B C ) (FunD.bindsN F fun _ _ _ _ _ _ us hl => match us, hl with | [_, _], _ => rfl) rfl
theorem ok_answer_in {f_ : Addr} {fd : FuncData} (F : FnP K "answer_in" s_answer_in f_ fd) (hm : mg "answer_in" = some (.ref f_)) (B : Bi mg) (C : Co K mg) : FnD P w K mg base "answer_in" 1 2 m_answer_in := fnD_mk F hm sc_answer_in (body_answer_in B C ) (FunD.bindsN F fun _ _ _ _ _ _ us hl => match us, hl with | [_, _], _ => rfl) rfl
theorem ok_row_is_right {f_ : Addr} {fd : FuncData} (F : FnP K "row_is_right" s_row_is_right f_ fd) (hm : mg "row_is_right" = some (.ref f_)) (B : Bi mg) (C : Co K mg) : FnD P w K mg base "row_is_right" 1 2 m_row_is_right := fnD_mk F hm sc_row_is_right (body_row_is_right B C ) (FunD.bindsN F fun _ _ _ _ _ _ us hl => match us, hl with | [_, _], _ => rfl) rfl
theorem ok_node_fault {f_ : Addr} {fd : FuncData} (F : FnP K "node_fault" s_node_fault f_ fd) (hm : mg "node_fault" = some (.ref f_)) (B : Bi mg) (C : Co K mg) (o_line_of : FnD P w K mg base "line_of" 1 2 (m_line_of)) (o_within : FnD P w K mg base "within" 1 2 (m_within)) (o_answer_in : FnD P w K mg base "answer_in" 1 2 (m_answer_in)) (o_row_is_right : FnD P w K mg base "row_is_right" 1 2 (m_row_is_right)) : ∀ d : Nat, FnD P w K mg base "node_fault" (1 + d + 1) 3 (m_node_fault d)
  | 0 => fnD_none F hm sc_node_fault (FunD.bindsN F fun _ _ _ _ _ _ us hl => match us, hl with | [_, _, _], _ => rfl) rfl
  | d + 1 => fnD_mk F hm sc_node_fault (body_node_fault B C o_line_of o_within o_answer_in o_row_is_right (ok_node_fault F hm B C o_line_of o_within o_answer_in o_row_is_right d) (Nat.le_refl _) (by omega)) (FunD.bindsN F fun _ _ _ _ _ _ us hl => match us, hl with | [_, _, _], _ => rfl) rfl
theorem ok_line_tree_fault {f_ : Addr} {fd : FuncData} (F : FnP K "line_tree_fault" s_line_tree_fault f_ fd) (hm : mg "line_tree_fault" = some (.ref f_)) (B : Bi mg) (C : Co K mg) (o_line_of : FnD P w K mg base "line_of" 1 2 (m_line_of)) (o_node_fault : FnD P w K mg base "node_fault" 112 3 (m_node_fault 110)) : FnD P w K mg base "line_tree_fault" 113 2 m_line_tree_fault := fnD_mk F hm sc_line_tree_fault (body_line_tree_fault B C o_line_of o_node_fault) (FunD.bindsN F fun _ _ _ _ _ _ us hl => match us, hl with | [_, _], _ => rfl) rfl
theorem ok_with_answer {f_ : Addr} {fd : FuncData} (F : FnP K "with_answer" s_with_answer f_ fd) (hm : mg "with_answer" = some (.ref f_)) (B : Bi mg) (C : Co K mg) (r_BadName : ErrOk P w K mg base "BadName" 1 ["name"]) : FnD P w K mg base "with_answer" 3 3 m_with_answer := fnD_mk F hm sc_with_answer (body_with_answer B C r_BadName) (FunD.bindsN F fun _ _ _ _ _ _ us hl => match us, hl with | [_, _, _], _ => rfl) rfl
theorem ok_walked_tree {f_ : Addr} {fd : FuncData} (F : FnP K "walked_tree" s_walked_tree f_ fd) (hm : mg "walked_tree" = some (.ref f_)) (B : Bi mg) (C : Co K mg) (o_with_answer : FnD P w K mg base "with_answer" 3 3 (m_with_answer)) (o_answer_in : FnD P w K mg base "answer_in" 1 2 (m_answer_in)) : ∀ d : Nat, FnD P w K mg base "walked_tree" (3 + d + 1) 2 (m_walked_tree d)
  | 0 => fnD_none F hm sc_walked_tree (FunD.bindsN F fun _ _ _ _ _ _ us hl => match us, hl with | [_, _], _ => rfl) rfl
  | d + 1 => fnD_mk F hm sc_walked_tree (body_walked_tree B C o_with_answer o_answer_in (ok_walked_tree F hm B C o_with_answer o_answer_in d) (Nat.le_refl _) (by omega)) (FunD.bindsN F fun _ _ _ _ _ _ us hl => match us, hl with | [_, _], _ => rfl) rfl
theorem ok_lines_tree {f_ : Addr} {fd : FuncData} (F : FnP K "lines_tree" s_lines_tree f_ fd) (hm : mg "lines_tree" = some (.ref f_)) (B : Bi mg) (C : Co K mg) (o_walked_tree : FnD P w K mg base "walked_tree" 114 2 (m_walked_tree 110)) (o_line_tree_fault : FnD P w K mg base "line_tree_fault" 113 2 (m_line_tree_fault)) (r_BadPaper : ErrOk P w K mg base "BadPaper" 1 ["place", "kind"]) : FnD P w K mg base "lines_tree" 115 2 m_lines_tree := fnD_mk F hm sc_lines_tree (body_lines_tree B C o_walked_tree o_line_tree_fault r_BadPaper) (FunD.bindsN F fun _ _ _ _ _ _ us hl => match us, hl with | [_, _], _ => rfl) rfl
theorem ok__law_refused {f_ : Addr} {fd : FuncData} (F : FnP K "_law_refused" s__law_refused f_ fd) (hm : mg "_law_refused" = some (.ref f_)) (B : Bi mg) (C : Co K mg) (o_lines_tree : FnD P w K mg base "lines_tree" 115 2 (m_lines_tree)) : FnD P w K mg base "_law_refused" 116 2 m__law_refused := fnD_mk F hm sc__law_refused (body__law_refused B C o_lines_tree) (FunD.bindsN F fun _ _ _ _ _ _ us hl => match us, hl with | [_, _], _ => rfl) rfl
theorem ok__law_same {f_ : Addr} {fd : FuncData} (F : FnP K "_law_same" s__law_same f_ fd) (hm : mg "_law_same" = some (.ref f_)) (B : Bi mg) (C : Co K mg) : ∀ d : Nat, FnD P w K mg base "_law_same" (0 + d + 1) 2 (m__law_same d)
  | 0 => fnD_none F hm sc__law_same (FunD.bindsN F fun _ _ _ _ _ _ us hl => match us, hl with | [_, _], _ => rfl) rfl
  | d + 1 => fnD_mk F hm sc__law_same (body__law_same B C  (ok__law_same F hm B C  d) (Nat.le_refl _) (by omega)) (FunD.bindsN F fun _ _ _ _ _ _ us hl => match us, hl with | [_, _], _ => rfl) rfl
theorem ok__law_leaf_rows {f_ : Addr} {fd : FuncData} (F : FnP K "_law_leaf_rows" s__law_leaf_rows f_ fd) (hm : mg "_law_leaf_rows" = some (.ref f_)) (B : Bi mg) (C : Co K mg) : ∀ d : Nat, FnD P w K mg base "_law_leaf_rows" (0 + d + 1) 1 (m__law_leaf_rows d)
  | 0 => fnD_none F hm sc__law_leaf_rows (FunD.bindsN F fun _ _ _ _ _ _ us hl => match us, hl with | [_], _ => rfl) rfl
  | d + 1 => fnD_mk F hm sc__law_leaf_rows (body__law_leaf_rows B C  (ok__law_leaf_rows F hm B C  d) (Nat.le_refl _) (by omega)) (FunD.bindsN F fun _ _ _ _ _ _ us hl => match us, hl with | [_], _ => rfl) rfl
theorem ok_line_tree_leaves {f_ : Addr} {fd : FuncData} (F : FnP K "line_tree_leaves" s_line_tree_leaves f_ fd) (hm : mg "line_tree_leaves" = some (.ref f_)) (B : Bi mg) (C : Co K mg) : ∀ d : Nat, FnD P w K mg base "line_tree_leaves" (0 + d + 1) 1 (m_line_tree_leaves d)
  | 0 => fnD_none F hm sc_line_tree_leaves (FunD.bindsN F fun _ _ _ _ _ _ us hl => match us, hl with | [_], _ => rfl) rfl
  | d + 1 => fnD_mk F hm sc_line_tree_leaves (body_line_tree_leaves B C  (ok_line_tree_leaves F hm B C  d) (Nat.le_refl _) (by omega)) (FunD.bindsN F fun _ _ _ _ _ _ us hl => match us, hl with | [_], _ => rfl) rfl
theorem ok__law_line {f_ : Addr} {fd : FuncData} (F : FnP K "_law_line" s__law_line f_ fd) (hm : mg "_law_line" = some (.ref f_)) (B : Bi mg) (C : Co K mg) : FnD P w K mg base "_law_line" 1 2 m__law_line := fnD_mk F hm sc__law_line (body__law_line B C ) (FunD.bindsN F fun _ _ _ _ _ _ us hl => match us, hl with | [_, _], _ => rfl) rfl
theorem ok__law_right_row {f_ : Addr} {fd : FuncData} (F : FnP K "_law_right_row" s__law_right_row f_ fd) (hm : mg "_law_right_row" = some (.ref f_)) (B : Bi mg) (C : Co K mg) : FnD P w K mg base "_law_right_row" 1 2 m__law_right_row := fnD_mk F hm sc__law_right_row (body__law_right_row B C ) (FunD.bindsN F fun _ _ _ _ _ _ us hl => match us, hl with | [_, _], _ => rfl) rfl
theorem ok__law_node_fault {f_ : Addr} {fd : FuncData} (F : FnP K "_law_node_fault" s__law_node_fault f_ fd) (hm : mg "_law_node_fault" = some (.ref f_)) (B : Bi mg) (C : Co K mg) (o__law_line : FnD P w K mg base "_law_line" 1 2 (m__law_line)) (o__law_right_row : FnD P w K mg base "_law_right_row" 1 2 (m__law_right_row)) : ∀ d : Nat, FnD P w K mg base "_law_node_fault" (1 + d + 1) 4 (m__law_node_fault d)
  | 0 => fnD_none F hm sc__law_node_fault (FunD.bindsN F fun _ _ _ _ _ _ us hl => match us, hl with | [_, _, _, _], _ => rfl) rfl
  | d + 1 => fnD_mk F hm sc__law_node_fault (body__law_node_fault B C o__law_line o__law_right_row (ok__law_node_fault F hm B C o__law_line o__law_right_row d) (Nat.le_refl _) (by omega)) (FunD.bindsN F fun _ _ _ _ _ _ us hl => match us, hl with | [_, _, _, _], _ => rfl) rfl
theorem ok__law_due {f_ : Addr} {fd : FuncData} (F : FnP K "_law_due" s__law_due f_ fd) (hm : mg "_law_due" = some (.ref f_)) (B : Bi mg) (C : Co K mg) (o__law_line : FnD P w K mg base "_law_line" 1 2 (m__law_line)) (o__law_node_fault : FnD P w K mg base "_law_node_fault" 112 4 (m__law_node_fault 110)) : FnD P w K mg base "_law_due" 113 3 m__law_due := fnD_mk F hm sc__law_due (body__law_due B C o__law_line o__law_node_fault) (FunD.bindsN F fun _ _ _ _ _ _ us hl => match us, hl with | [_, _, _], _ => rfl) rfl
theorem ok__law_judged {f_ : Addr} {fd : FuncData} (F : FnP K "_law_judged" s__law_judged f_ fd) (hm : mg "_law_judged" = some (.ref f_)) (B : Bi mg) (C : Co K mg) (o__law_refused : FnD P w K mg base "_law_refused" 116 2 (m__law_refused)) (o__law_same : FnD P w K mg base "_law_same" 6 2 (m__law_same 5)) (o_line_tree_fault : FnD P w K mg base "line_tree_fault" 113 2 (m_line_tree_fault)) (o__law_leaf_rows : FnD P w K mg base "_law_leaf_rows" 111 1 (m__law_leaf_rows 110)) (o_line_tree_leaves : FnD P w K mg base "line_tree_leaves" 111 1 (m_line_tree_leaves 110)) (o__law_due : FnD P w K mg base "_law_due" 113 3 (m__law_due)) : FnD P w K mg base "_law_judged" 117 4 m__law_judged := fnD_mk F hm sc__law_judged (body__law_judged B C o__law_refused o__law_same o_line_tree_fault o__law_leaf_rows o_line_tree_leaves o__law_due) (FunD.bindsN F fun _ _ _ _ _ _ us hl => match us, hl with | [_, _, _, _], _ => rfl) rfl
theorem ok__law_node {f_ : Addr} {fd : FuncData} (F : FnP K "_law_node" s__law_node f_ fd) (hm : mg "_law_node" = some (.ref f_)) (B : Bi mg) (C : Co K mg) : FnD P w K mg base "_law_node" 1 2 m__law_node := fnD_mk F hm sc__law_node (body__law_node B C ) (FunD.bindsN F fun _ _ _ _ _ _ us hl => match us, hl with | [_, _], _ => rfl) rfl
theorem ok__law_put {f_ : Addr} {fd : FuncData} (F : FnP K "_law_put" s__law_put f_ fd) (hm : mg "_law_put" = some (.ref f_)) (B : Bi mg) (C : Co K mg) : ∀ d : Nat, FnD P w K mg base "_law_put" (0 + d + 1) 3 (m__law_put d)
  | 0 => fnD_none F hm sc__law_put (FunD.bindsN F fun _ _ _ _ _ _ us hl => match us, hl with | [_, _, _], _ => rfl) rfl
  | d + 1 => fnD_mk F hm sc__law_put (body__law_put B C  (ok__law_put F hm B C  d) (Nat.le_refl _) (by omega)) (FunD.bindsN F fun _ _ _ _ _ _ us hl => match us, hl with | [_, _, _], _ => rfl) rfl
theorem ok__law_spoilt_line {f_ : Addr} {fd : FuncData} (F : FnP K "_law_spoilt_line" s__law_spoilt_line f_ fd) (hm : mg "_law_spoilt_line" = some (.ref f_)) (B : Bi mg) (C : Co K mg) : FnD P w K mg base "_law_spoilt_line" 1 4 m__law_spoilt_line := fnD_mk F hm sc__law_spoilt_line (body__law_spoilt_line B C ) (FunD.bindsN F fun _ _ _ _ _ _ us hl => match us, hl with | [_, _, _, _], _ => rfl) rfl
theorem ok__law_spoilt {f_ : Addr} {fd : FuncData} (F : FnP K "_law_spoilt" s__law_spoilt f_ fd) (hm : mg "_law_spoilt" = some (.ref f_)) (B : Bi mg) (C : Co K mg) (o__law_spoilt_line : FnD P w K mg base "_law_spoilt_line" 1 4 (m__law_spoilt_line)) : FnD P w K mg base "_law_spoilt" 2 5 m__law_spoilt := fnD_mk F hm sc__law_spoilt (body__law_spoilt B C o__law_spoilt_line) (FunD.bindsN F fun _ _ _ _ _ _ us hl => match us, hl with | [_, _, _, _, _], _ => rfl) rfl
theorem ok__law_places {f_ : Addr} {fd : FuncData} (F : FnP K "_law_places" s__law_places f_ fd) (hm : mg "_law_places" = some (.ref f_)) (B : Bi mg) (C : Co K mg) : ∀ d : Nat, FnD P w K mg base "_law_places" (0 + d + 1) 2 (m__law_places d)
  | 0 => fnD_none F hm sc__law_places (FunD.bindsN F fun _ _ _ _ _ _ us hl => match us, hl with | [_, _], _ => rfl) rfl
  | d + 1 => fnD_mk F hm sc__law_places (body__law_places B C  (ok__law_places F hm B C  d) (Nat.le_refl _) (by omega)) (FunD.bindsN F fun _ _ _ _ _ _ us hl => match us, hl with | [_, _], _ => rfl) rfl
theorem ok__law_cell {f_ : Addr} {fd : FuncData} (F : FnP K "_law_cell" s__law_cell f_ fd) (hm : mg "_law_cell" = some (.ref f_)) (B : Bi mg) (C : Co K mg) : FnD P w K mg base "_law_cell" 1 2 m__law_cell := fnD_mk F hm sc__law_cell (body__law_cell B C ) (FunD.bindsN F fun _ _ _ _ _ _ us hl => match us, hl with | [_, _], _ => rfl) rfl
theorem ok__law_seed {f_ : Addr} {fd : FuncData} (F : FnP K "_law_seed" s__law_seed f_ fd) (hm : mg "_law_seed" = some (.ref f_)) (B : Bi mg) (C : Co K mg) (o__law_cell : FnD P w K mg base "_law_cell" 1 2 (m__law_cell)) : FnD P w K mg base "_law_seed" 2 2 m__law_seed := fnD_mk F hm sc__law_seed (body__law_seed B C o__law_cell) (FunD.bindsN F fun _ _ _ _ _ _ us hl => match us, hl with | [_, _], _ => rfl) rfl
theorem ok__law_draws {f_ : Addr} {fd : FuncData} (F : FnP K "_law_draws" s__law_draws f_ fd) (hm : mg "_law_draws" = some (.ref f_)) (B : Bi mg) (C : Co K mg) : FnD P w K mg base "_law_draws" 1 2 m__law_draws := fnD_mk F hm sc__law_draws (body__law_draws B C ) (FunD.bindsN F fun _ _ _ _ _ _ us hl => match us, hl with | [_, _], _ => rfl) rfl
theorem ok__law_indexed {f_ : Addr} {fd : FuncData} (F : FnP K "_law_indexed" s__law_indexed f_ fd) (hm : mg "_law_indexed" = some (.ref f_)) (B : Bi mg) (C : Co K mg) : ∀ d : Nat, FnD P w K mg base "_law_indexed" (0 + d + 1) 2 (m__law_indexed d)
  | 0 => fnD_none F hm sc__law_indexed (FunD.bindsN F fun _ _ _ _ _ _ us hl => match us, hl with | [_, _], _ => rfl) rfl
  | d + 1 => fnD_mk F hm sc__law_indexed (body__law_indexed B C  (ok__law_indexed F hm B C  d) (Nat.le_refl _) (by omega)) (FunD.bindsN F fun _ _ _ _ _ _ us hl => match us, hl with | [_, _], _ => rfl) rfl
theorem ok_plain_row {f_ : Addr} {fd : FuncData} (F : FnP K "plain_row" s_plain_row f_ fd) (hm : mg "plain_row" = some (.ref f_)) (B : Bi mg) (C : Co K mg) : FnD P w K mg base "plain_row" 1 1 m_plain_row := fnD_mk F hm sc_plain_row (body_plain_row B C ) (FunD.bindsN F fun _ _ _ _ _ _ us hl => match us, hl with | [_], _ => rfl) rfl
theorem ok_Book_init {fd : FuncData} (F : FnM K "__init__" "Book.__init__" s_Book_init (He.ma K (He.ga K "Book") "__init__") fd) (hm : mg "Book" = some (.ref (He.ga K "Book"))) (M : Mk K (He.ga K "Book") (He.ma K (He.ga K "Book") "__init__")) (B : Bi mg) (C : Co K mg) (o_row_is_right : FnD P w K mg base "row_is_right" 1 2 (m_row_is_right)) (o_plain_row : FnD P w K mg base "plain_row" 1 1 (m_plain_row)) (r_TooMany : ErrOk P w K mg base "TooMany" 1 ["many"]) (r_BadWish : ErrOk P w K mg base "BadWish" 1 ["index"]) (r_BadNames : ErrOk P w K mg base "BadNames" 1 ["names"]) : MkD P w K mg base "Book" 3 2 m_Book_init := mkD_mk hm M F sc_Book_init (body_Book_init B C o_row_is_right o_plain_row r_TooMany r_BadWish r_BadNames) (FunD.bindsN F fun _ _ _ _ _ _ us hl => match us, hl with | [_, _, _], _ => rfl) rfl
theorem ok__law_wish {f_ : Addr} {fd : FuncData} (F : FnP K "_law_wish" s__law_wish f_ fd) (hm : mg "_law_wish" = some (.ref f_)) (B : Bi mg) (C : Co K mg) (o__law_draws : FnD P w K mg base "_law_draws" 1 2 (m__law_draws)) : FnD P w K mg base "_law_wish" 2 2 m__law_wish := fnD_mk F hm sc__law_wish (body__law_wish B C o__law_draws) (FunD.bindsN F fun _ _ _ _ _ _ us hl => match us, hl with | [_, _], _ => rfl) rfl
theorem ok__law_part {f_ : Addr} {fd : FuncData} (F : FnP K "_law_part" s__law_part f_ fd) (hm : mg "_law_part" = some (.ref f_)) (B : Bi mg) (C : Co K mg) : FnD P w K mg base "_law_part" 1 2 m__law_part := fnD_mk F hm sc__law_part (body__law_part B C ) (FunD.bindsN F fun _ _ _ _ _ _ us hl => match us, hl with | [_, _], _ => rfl) rfl
theorem ok__law_grow {f_ : Addr} {fd : FuncData} (F : FnP K "_law_grow" s__law_grow f_ fd) (hm : mg "_law_grow" = some (.ref f_)) (B : Bi mg) (C : Co K mg) (o__law_part : FnD P w K mg base "_law_part" 1 2 (m__law_part)) : ∀ d : Nat, FnD P w K mg base "_law_grow" (1 + d + 1) 6 (m__law_grow d)
  | 0 => fnD_none F hm sc__law_grow (FunD.bindsN F fun _ _ _ _ _ _ us hl => match us, hl with | [_, _, _, _, _, _], _ => rfl) rfl
  | d + 1 => fnD_mk F hm sc__law_grow (body__law_grow B C o__law_part (ok__law_grow F hm B C o__law_part d) (Nat.le_refl _) (by omega)) (FunD.bindsN F fun _ _ _ _ _ _ us hl => match us, hl with | [_, _, _, _, _, _], _ => rfl) rfl
theorem ok_law {f_ : Addr} {fd : FuncData} (F : FnP K "law" s_law f_ fd) (hm : mg "law" = some (.ref f_)) (B : Bi mg) (C : Co K mg) (o_line_tree_fault : FnD P w K mg base "line_tree_fault" 113 2 (m_line_tree_fault)) (o__law_judged : FnD P w K mg base "_law_judged" 117 4 (m__law_judged)) (o__law_node : FnD P w K mg base "_law_node" 1 2 (m__law_node)) (o__law_put : FnD P w K mg base "_law_put" 111 3 (m__law_put 110)) (o__law_spoilt : FnD P w K mg base "_law_spoilt" 2 5 (m__law_spoilt)) (o__law_places : FnD P w K mg base "_law_places" 111 2 (m__law_places 110)) (o__law_seed : FnD P w K mg base "_law_seed" 2 2 (m__law_seed)) (o__law_draws : FnD P w K mg base "_law_draws" 1 2 (m__law_draws)) (o__law_due : FnD P w K mg base "_law_due" 113 3 (m__law_due)) (o__law_indexed : FnD P w K mg base "_law_indexed" 111 2 (m__law_indexed 110)) (o_Book : MkD P w K mg base "Book" 3 2 m_Book_init) (o__law_leaf_rows : FnD P w K mg base "_law_leaf_rows" 111 1 (m__law_leaf_rows 110)) (o__law_wish : FnD P w K mg base "_law_wish" 2 2 (m__law_wish)) (o__law_grow : FnD P w K mg base "_law_grow" 112 6 (m__law_grow 110)) (o__law_cell : FnD P w K mg base "_law_cell" 1 2 (m__law_cell)) : FnD P w K mg base "law" 118 1 m_law := fnD_mk F hm sc_law (body_law B C o_line_tree_fault o__law_judged o__law_node o__law_put o__law_spoilt o__law_places o__law_seed o__law_draws o__law_due o__law_indexed o_Book o__law_leaf_rows o__law_wish o__law_grow o__law_cell) (FunD.bindsN F fun _ _ _ _ _ _ us hl => match us, hl with | [_], _ => rfl) rfl
end
def d_line_of : He.DefD := ⟨("line_of", none), "line_of", "line_of", defArgs s_line_of, defBody s_line_of, defScope s_line_of, [], []⟩
def d_within : He.DefD := ⟨("within", none), "within", "within", defArgs s_within, defBody s_within, defScope s_within, [], []⟩
def d_answer_in : He.DefD := ⟨("answer_in", none), "answer_in", "answer_in", defArgs s_answer_in, defBody s_answer_in, defScope s_answer_in, [], []⟩
def d_row_is_right : He.DefD := ⟨("row_is_right", none), "row_is_right", "row_is_right", defArgs s_row_is_right, defBody s_row_is_right, defScope s_row_is_right, [], []⟩
def d_node_fault : He.DefD := ⟨("node_fault", none), "node_fault", "node_fault", defArgs s_node_fault, defBody s_node_fault, defScope s_node_fault, [], []⟩
def d_line_tree_fault : He.DefD := ⟨("line_tree_fault", none), "line_tree_fault", "line_tree_fault", defArgs s_line_tree_fault, defBody s_line_tree_fault, defScope s_line_tree_fault, [], []⟩
def d_with_answer : He.DefD := ⟨("with_answer", none), "with_answer", "with_answer", defArgs s_with_answer, defBody s_with_answer, defScope s_with_answer, [], []⟩
def d_walked_tree : He.DefD := ⟨("walked_tree", none), "walked_tree", "walked_tree", defArgs s_walked_tree, defBody s_walked_tree, defScope s_walked_tree, [], []⟩
def d_lines_tree : He.DefD := ⟨("lines_tree", none), "lines_tree", "lines_tree", defArgs s_lines_tree, defBody s_lines_tree, defScope s_lines_tree, [], []⟩
def d__law_refused : He.DefD := ⟨("_law_refused", none), "_law_refused", "_law_refused", defArgs s__law_refused, defBody s__law_refused, defScope s__law_refused, [], []⟩
def d__law_same : He.DefD := ⟨("_law_same", none), "_law_same", "_law_same", defArgs s__law_same, defBody s__law_same, defScope s__law_same, [], []⟩
def d__law_leaf_rows : He.DefD := ⟨("_law_leaf_rows", none), "_law_leaf_rows", "_law_leaf_rows", defArgs s__law_leaf_rows, defBody s__law_leaf_rows, defScope s__law_leaf_rows, [], []⟩
def d_line_tree_leaves : He.DefD := ⟨("line_tree_leaves", none), "line_tree_leaves", "line_tree_leaves", defArgs s_line_tree_leaves, defBody s_line_tree_leaves, defScope s_line_tree_leaves, [], []⟩
def d__law_line : He.DefD := ⟨("_law_line", none), "_law_line", "_law_line", defArgs s__law_line, defBody s__law_line, defScope s__law_line, [], []⟩
def d__law_right_row : He.DefD := ⟨("_law_right_row", none), "_law_right_row", "_law_right_row", defArgs s__law_right_row, defBody s__law_right_row, defScope s__law_right_row, [], []⟩
def d__law_node_fault : He.DefD := ⟨("_law_node_fault", none), "_law_node_fault", "_law_node_fault", defArgs s__law_node_fault, defBody s__law_node_fault, defScope s__law_node_fault, [], []⟩
def d__law_due : He.DefD := ⟨("_law_due", none), "_law_due", "_law_due", defArgs s__law_due, defBody s__law_due, defScope s__law_due, [], []⟩
def d__law_judged : He.DefD := ⟨("_law_judged", none), "_law_judged", "_law_judged", defArgs s__law_judged, defBody s__law_judged, defScope s__law_judged, [], []⟩
def d__law_node : He.DefD := ⟨("_law_node", none), "_law_node", "_law_node", defArgs s__law_node, defBody s__law_node, defScope s__law_node, [], []⟩
def d__law_put : He.DefD := ⟨("_law_put", none), "_law_put", "_law_put", defArgs s__law_put, defBody s__law_put, defScope s__law_put, [], []⟩
def d__law_spoilt_line : He.DefD := ⟨("_law_spoilt_line", none), "_law_spoilt_line", "_law_spoilt_line", defArgs s__law_spoilt_line, defBody s__law_spoilt_line, defScope s__law_spoilt_line, [], []⟩
def d__law_spoilt : He.DefD := ⟨("_law_spoilt", none), "_law_spoilt", "_law_spoilt", defArgs s__law_spoilt, defBody s__law_spoilt, defScope s__law_spoilt, [], []⟩
def d__law_places : He.DefD := ⟨("_law_places", none), "_law_places", "_law_places", defArgs s__law_places, defBody s__law_places, defScope s__law_places, [], []⟩
def d__law_cell : He.DefD := ⟨("_law_cell", none), "_law_cell", "_law_cell", defArgs s__law_cell, defBody s__law_cell, defScope s__law_cell, [], []⟩
def d__law_seed : He.DefD := ⟨("_law_seed", none), "_law_seed", "_law_seed", defArgs s__law_seed, defBody s__law_seed, defScope s__law_seed, [], []⟩
def d__law_draws : He.DefD := ⟨("_law_draws", none), "_law_draws", "_law_draws", defArgs s__law_draws, defBody s__law_draws, defScope s__law_draws, [], []⟩
def d__law_indexed : He.DefD := ⟨("_law_indexed", none), "_law_indexed", "_law_indexed", defArgs s__law_indexed, defBody s__law_indexed, defScope s__law_indexed, [], []⟩
def d_plain_row : He.DefD := ⟨("plain_row", none), "plain_row", "plain_row", defArgs s_plain_row, defBody s_plain_row, defScope s_plain_row, [], []⟩
def d_Book : He.DefD := ⟨("Book", some "__init__"), "__init__", "Book.__init__", defArgs s_Book_init, defBody s_Book_init, defScope s_Book_init, [], []⟩
def d__law_wish : He.DefD := ⟨("_law_wish", none), "_law_wish", "_law_wish", defArgs s__law_wish, defBody s__law_wish, defScope s__law_wish, [], []⟩
def d__law_part : He.DefD := ⟨("_law_part", none), "_law_part", "_law_part", defArgs s__law_part, defBody s__law_part, defScope s__law_part, [], []⟩
def d__law_grow : He.DefD := ⟨("_law_grow", none), "_law_grow", "_law_grow", defArgs s__law_grow, defBody s__law_grow, defScope s__law_grow, [], []⟩
def d_law : He.DefD := ⟨("law", none), "law", "law", defArgs s_law, defBody s_law, defScope s_law, [], []⟩
def fn : List He.DefD := [d_line_of, d_within, d_answer_in, d_row_is_right, d_node_fault, d_line_tree_fault, d_with_answer, d_walked_tree, d_lines_tree, d__law_refused, d__law_same, d__law_leaf_rows, d_line_tree_leaves, d__law_line, d__law_right_row, d__law_node_fault, d__law_due, d__law_judged, d__law_node, d__law_put, d__law_spoilt_line, d__law_spoilt, d__law_places, d__law_cell, d__law_seed, d__law_draws, d__law_indexed, d_plain_row, d_Book, d__law_wish, d__law_part, d__law_grow, d_law]
def fa : List He.Fa := [.glo "line_of", .glo "within", .glo "answer_in", .glo "row_is_right", .glo "node_fault", .glo "line_tree_fault", .glo "with_answer", .glo "walked_tree", .glo "lines_tree", .glo "_law_refused", .glo "_law_same", .glo "_law_leaf_rows", .glo "line_tree_leaves", .glo "_law_line", .glo "_law_right_row", .glo "_law_node_fault", .glo "_law_due", .glo "_law_judged", .glo "_law_node", .glo "_law_put", .glo "_law_spoilt_line", .glo "_law_spoilt", .glo "_law_places", .glo "_law_cell", .glo "_law_seed", .glo "_law_draws", .glo "_law_indexed", .glo "plain_row", .glo "Book", .glo "_law_wish", .glo "_law_part", .glo "_law_grow", .glo "law", .free "tuple", .free "len", .free "sorted", .free "set", .free "enumerate", .free "all", .free "int", .free "range", .free "abs", .free "list", .free "reversed", .free "bool", .free "isinstance", .free "str", .free "min", .free "super", .mkr "Book"]
def e_BadNames : ErrD := ⟨"BadNames", "BadNames.__init__", inner 3 0, ["names"]⟩
def e_BadWish : ErrD := ⟨"BadWish", "BadWish.__init__", inner 4 0, ["index"]⟩
def e_TooMany : ErrD := ⟨"TooMany", "TooMany.__init__", inner 5 0, ["many"]⟩
def e_BadName : ErrD := ⟨"BadName", "BadName.__init__", inner 6 0, ["name"]⟩
def e_BadText : ErrD := ⟨"BadText", "BadText.__init__", inner 7 0, ["at"]⟩
def e_BadPaper : ErrD := ⟨"BadPaper", "BadPaper.__init__", inner 8 0, ["place", "kind"]⟩
def e_BadLiar : ErrD := ⟨"BadLiar", "BadLiar.__init__", inner 9 0, ["place", "kind"]⟩
def er : List ErrD := [e_BadNames, e_BadWish, e_TooMany, e_BadName, e_BadText, e_BadPaper, e_BadLiar]
def clL : List Str := ["BookError", "BadNames", "BadWish", "TooMany", "BadName", "BadText", "BadPaper", "BadLiar", "Book"]
abbrev R : PySem.W.OpenRow := PySem.W.OpenLaw.row PySem.Challenge.rw_liftedliars_k13_line_trees_judged
def ex (K : PySem.W.Frag) : Bool := clL.all (gloB K) && (exB K exL && (xfBl K xfL && (kiB K kiL && (ki2B K ki2L && (fldB K fldL && (cvB K cvL && er.all (errB PySem.Challenge.pw_liftedliars_k13_line_trees_judged.main.file K)))))))
abbrev hk : PySem.W.Hook := hookE2 5 fa fn er ex
def ob (s : PySem.W.SharedT) : AlE := obsE2 5 fa fn er ex (HandSHeadRun.getT s)
theorem ob_eq (s : PySem.W.SharedT) : ob s = hk.obs s.abs := obsE2_eq (HandSHeadRun.getT_eq s)
def loose : List Str := ((["_wall", "BookError", "BadNames", "BadWish", "TooMany", "BadName", "BadText", "BadPaper", "BadLiar", "row_is_right", "within", "answer_in", "with_answer", "plain_row", "moved_wishes"] : List Str) ++ (["word_text", "read_number", "read_wish", "Book", "line_of", "node_fault", "line_tree_fault", "line_tree_leaves", "walked_tree", "lines_tree", "_law_cell", "_law_draws", "_law_seed", "_law_wish", "_law_part"] : List Str) ++ (["_law_grow", "_law_leaf_rows", "_law_indexed", "_law_places", "_law_node", "_law_put", "_law_spoilt_line", "_law_spoilt", "_law_line", "_law_right_row", "_law_node_fault", "_law_due", "_law_same", "_law_refused", "_law_judged"] : List Str))
theorem run (w : World) : HandSHeadRun.RunEq R (PySem.W.view R.prog [50]) hk ob 6000 loose w := by
  intro os
  kernel_rfl
section
variable {w : World} {K : PySem.W.Frag} {mg : Mg} {base : Heap}
theorem rr_BadName (E : ErrS PySem.Challenge.pw_liftedliars_k13_line_trees_judged K mg e_BadName) : ErrOk PySem.Challenge.pw_liftedliars_k13_line_trees_judged w K mg base "BadName" 1 ["name"] :=
  errOk1 (d := e_BadName) E rfl (NdefX.nscope_by (by decide +kernel)) rfl rfl rfl (fun _ _ _ _ _ _ _ us hl => match us, hl with | [_, _], _ => rfl) (by decide) (by decide) (by decide) (by decide)
theorem rr_BadPaper (E : ErrS PySem.Challenge.pw_liftedliars_k13_line_trees_judged K mg e_BadPaper) : ErrOk PySem.Challenge.pw_liftedliars_k13_line_trees_judged w K mg base "BadPaper" 1 ["place", "kind"] :=
  errOk2 (d := e_BadPaper) E rfl (NdefX.nscope_by (by decide +kernel)) rfl rfl rfl (fun _ _ _ _ _ _ _ us hl => match us, hl with | [_, _, _], _ => rfl) (by decide) (by decide) (by decide) (by decide) (by decide) (by decide)
theorem rr_TooMany (E : ErrS PySem.Challenge.pw_liftedliars_k13_line_trees_judged K mg e_TooMany) : ErrOk PySem.Challenge.pw_liftedliars_k13_line_trees_judged w K mg base "TooMany" 1 ["many"] :=
  errOk1 (d := e_TooMany) E rfl (NdefX.nscope_by (by decide +kernel)) rfl rfl rfl (fun _ _ _ _ _ _ _ us hl => match us, hl with | [_, _], _ => rfl) (by decide) (by decide) (by decide) (by decide)
theorem rr_BadWish (E : ErrS PySem.Challenge.pw_liftedliars_k13_line_trees_judged K mg e_BadWish) : ErrOk PySem.Challenge.pw_liftedliars_k13_line_trees_judged w K mg base "BadWish" 1 ["index"] :=
  errOk1 (d := e_BadWish) E rfl (NdefX.nscope_by (by decide +kernel)) rfl rfl rfl (fun _ _ _ _ _ _ _ us hl => match us, hl with | [_, _], _ => rfl) (by decide) (by decide) (by decide) (by decide)
theorem rr_BadNames (E : ErrS PySem.Challenge.pw_liftedliars_k13_line_trees_judged K mg e_BadNames) : ErrOk PySem.Challenge.pw_liftedliars_k13_line_trees_judged w K mg base "BadNames" 1 ["names"] :=
  errOk1 (d := e_BadNames) E rfl (NdefX.nscope_by (by decide +kernel)) rfl rfl rfl (fun _ _ _ _ _ _ _ us hl => match us, hl with | [_, _], _ => rfl) (by decide) (by decide) (by decide) (by decide)
end
theorem facts {w : World} {K : PySem.W.Frag} {h : Heap} {mg : Mg} {f : Addr} (X : K.In h) (G : h.Ns mainGlobals mg) (hfa : mg ("law" : Str) = some (.ref f)) (cc : SaysE2 fa fn er ex K) :
    ∃ fd : FuncData, (∀ (s : Shared) (v : Value), BindsTo s fd ⟨[v], []⟩ [("script", v)]) ∧ ∀ base : Heap, K.In base → base.Ns mainGlobals mg → FnOk PySem.Challenge.pw_liftedliars_k13_line_trees_judged w K mg base (L2.CX PySem.Challenge.pw_liftedliars_k13_line_trees_judged w) 118 f fd ["script"] (spD K mg 1 m_law) := by
  have c := cc.d
  obtain ⟨fd_line_of, F_line_of⟩ := c.def_ 0 (d := d_line_of) rfl
  have g_line_of := He.glo_ok X G (c.fact 0 (f := .glo "line_of") rfl)
  obtain ⟨fd_within, F_within⟩ := c.def_ 1 (d := d_within) rfl
  have g_within := He.glo_ok X G (c.fact 1 (f := .glo "within") rfl)
  obtain ⟨fd_answer_in, F_answer_in⟩ := c.def_ 2 (d := d_answer_in) rfl
  have g_answer_in := He.glo_ok X G (c.fact 2 (f := .glo "answer_in") rfl)
  obtain ⟨fd_row_is_right, F_row_is_right⟩ := c.def_ 3 (d := d_row_is_right) rfl
  have g_row_is_right := He.glo_ok X G (c.fact 3 (f := .glo "row_is_right") rfl)
  obtain ⟨fd_node_fault, F_node_fault⟩ := c.def_ 4 (d := d_node_fault) rfl
  have g_node_fault := He.glo_ok X G (c.fact 4 (f := .glo "node_fault") rfl)
  obtain ⟨fd_line_tree_fault, F_line_tree_fault⟩ := c.def_ 5 (d := d_line_tree_fault) rfl
  have g_line_tree_fault := He.glo_ok X G (c.fact 5 (f := .glo "line_tree_fault") rfl)
  obtain ⟨fd_with_answer, F_with_answer⟩ := c.def_ 6 (d := d_with_answer) rfl
  have g_with_answer := He.glo_ok X G (c.fact 6 (f := .glo "with_answer") rfl)
  obtain ⟨fd_walked_tree, F_walked_tree⟩ := c.def_ 7 (d := d_walked_tree) rfl
  have g_walked_tree := He.glo_ok X G (c.fact 7 (f := .glo "walked_tree") rfl)
  obtain ⟨fd_lines_tree, F_lines_tree⟩ := c.def_ 8 (d := d_lines_tree) rfl
  have g_lines_tree := He.glo_ok X G (c.fact 8 (f := .glo "lines_tree") rfl)
  obtain ⟨fd__law_refused, F__law_refused⟩ := c.def_ 9 (d := d__law_refused) rfl
  have g__law_refused := He.glo_ok X G (c.fact 9 (f := .glo "_law_refused") rfl)
  obtain ⟨fd__law_same, F__law_same⟩ := c.def_ 10 (d := d__law_same) rfl
  have g__law_same := He.glo_ok X G (c.fact 10 (f := .glo "_law_same") rfl)
  obtain ⟨fd__law_leaf_rows, F__law_leaf_rows⟩ := c.def_ 11 (d := d__law_leaf_rows) rfl
  have g__law_leaf_rows := He.glo_ok X G (c.fact 11 (f := .glo "_law_leaf_rows") rfl)
  obtain ⟨fd_line_tree_leaves, F_line_tree_leaves⟩ := c.def_ 12 (d := d_line_tree_leaves) rfl
  have g_line_tree_leaves := He.glo_ok X G (c.fact 12 (f := .glo "line_tree_leaves") rfl)
  obtain ⟨fd__law_line, F__law_line⟩ := c.def_ 13 (d := d__law_line) rfl
  have g__law_line := He.glo_ok X G (c.fact 13 (f := .glo "_law_line") rfl)
  obtain ⟨fd__law_right_row, F__law_right_row⟩ := c.def_ 14 (d := d__law_right_row) rfl
  have g__law_right_row := He.glo_ok X G (c.fact 14 (f := .glo "_law_right_row") rfl)
  obtain ⟨fd__law_node_fault, F__law_node_fault⟩ := c.def_ 15 (d := d__law_node_fault) rfl
  have g__law_node_fault := He.glo_ok X G (c.fact 15 (f := .glo "_law_node_fault") rfl)
  obtain ⟨fd__law_due, F__law_due⟩ := c.def_ 16 (d := d__law_due) rfl
  have g__law_due := He.glo_ok X G (c.fact 16 (f := .glo "_law_due") rfl)
  obtain ⟨fd__law_judged, F__law_judged⟩ := c.def_ 17 (d := d__law_judged) rfl
  have g__law_judged := He.glo_ok X G (c.fact 17 (f := .glo "_law_judged") rfl)
  obtain ⟨fd__law_node, F__law_node⟩ := c.def_ 18 (d := d__law_node) rfl
  have g__law_node := He.glo_ok X G (c.fact 18 (f := .glo "_law_node") rfl)
  obtain ⟨fd__law_put, F__law_put⟩ := c.def_ 19 (d := d__law_put) rfl
  have g__law_put := He.glo_ok X G (c.fact 19 (f := .glo "_law_put") rfl)
  obtain ⟨fd__law_spoilt_line, F__law_spoilt_line⟩ := c.def_ 20 (d := d__law_spoilt_line) rfl
  have g__law_spoilt_line := He.glo_ok X G (c.fact 20 (f := .glo "_law_spoilt_line") rfl)
  obtain ⟨fd__law_spoilt, F__law_spoilt⟩ := c.def_ 21 (d := d__law_spoilt) rfl
  have g__law_spoilt := He.glo_ok X G (c.fact 21 (f := .glo "_law_spoilt") rfl)
  obtain ⟨fd__law_places, F__law_places⟩ := c.def_ 22 (d := d__law_places) rfl
  have g__law_places := He.glo_ok X G (c.fact 22 (f := .glo "_law_places") rfl)
  obtain ⟨fd__law_cell, F__law_cell⟩ := c.def_ 23 (d := d__law_cell) rfl
  have g__law_cell := He.glo_ok X G (c.fact 23 (f := .glo "_law_cell") rfl)
  obtain ⟨fd__law_seed, F__law_seed⟩ := c.def_ 24 (d := d__law_seed) rfl
  have g__law_seed := He.glo_ok X G (c.fact 24 (f := .glo "_law_seed") rfl)
  obtain ⟨fd__law_draws, F__law_draws⟩ := c.def_ 25 (d := d__law_draws) rfl
  have g__law_draws := He.glo_ok X G (c.fact 25 (f := .glo "_law_draws") rfl)
  obtain ⟨fd__law_indexed, F__law_indexed⟩ := c.def_ 26 (d := d__law_indexed) rfl
  have g__law_indexed := He.glo_ok X G (c.fact 26 (f := .glo "_law_indexed") rfl)
  obtain ⟨fd_plain_row, F_plain_row⟩ := c.def_ 27 (d := d_plain_row) rfl
  have g_plain_row := He.glo_ok X G (c.fact 27 (f := .glo "plain_row") rfl)
  obtain ⟨fd_Book, F_Book⟩ := c.def_ 28 (d := d_Book) rfl
  have g_Book := He.glo_ok X G (c.fact 28 (f := .glo "Book") rfl)
  obtain ⟨fd__law_wish, F__law_wish⟩ := c.def_ 29 (d := d__law_wish) rfl
  have g__law_wish := He.glo_ok X G (c.fact 29 (f := .glo "_law_wish") rfl)
  obtain ⟨fd__law_part, F__law_part⟩ := c.def_ 30 (d := d__law_part) rfl
  have g__law_part := He.glo_ok X G (c.fact 30 (f := .glo "_law_part") rfl)
  obtain ⟨fd__law_grow, F__law_grow⟩ := c.def_ 31 (d := d__law_grow) rfl
  have g__law_grow := He.glo_ok X G (c.fact 31 (f := .glo "_law_grow") rfl)
  obtain ⟨fd_law, F_law⟩ := c.def_ 32 (d := d_law) rfl
  have g_law := He.glo_ok X G (c.fact 32 (f := .glo "law") rfl)
  have B : Bi mg := ⟨He.free_ok X G (c.fact 33 (f := .free "tuple") rfl), He.free_ok X G (c.fact 34 (f := .free "len") rfl), He.free_ok X G (c.fact 35 (f := .free "sorted") rfl), He.free_ok X G (c.fact 36 (f := .free "set") rfl), He.free_ok X G (c.fact 37 (f := .free "enumerate") rfl), He.free_ok X G (c.fact 38 (f := .free "all") rfl), He.free_ok X G (c.fact 39 (f := .free "int") rfl), He.free_ok X G (c.fact 40 (f := .free "range") rfl), He.free_ok X G (c.fact 41 (f := .free "abs") rfl), He.free_ok X G (c.fact 42 (f := .free "list") rfl), He.free_ok X G (c.fact 43 (f := .free "reversed") rfl), He.free_ok X G (c.fact 44 (f := .free "bool") rfl), He.free_ok X G (c.fact 45 (f := .free "isinstance") rfl), He.free_ok X G (c.fact 46 (f := .free "str") rfl), He.free_ok X G (c.fact 47 (f := .free "min") rfl)⟩
  obtain ⟨x1, xx⟩ := He.ba cc.ex
  obtain ⟨x2, xx⟩ := He.ba xx
  obtain ⟨x3, xx⟩ := He.ba xx
  obtain ⟨x4, xx⟩ := He.ba xx
  obtain ⟨x5, xx⟩ := He.ba xx
  obtain ⟨x7, xx⟩ := He.ba xx
  obtain ⟨x8, x6⟩ := He.ba xx
  have C : Co K mg := ⟨exT_of X G x2, xfT_of X G x3, kiT_of X G x4 x5, fldT_of X G x7, cvT_of X G x8, gloB_ok X G (List.all_eq_true.mp x1 "BookError" (by decide)), gloB_ok X G (List.all_eq_true.mp x1 "BadNames" (by decide)), gloB_ok X G (List.all_eq_true.mp x1 "BadWish" (by decide)), gloB_ok X G (List.all_eq_true.mp x1 "TooMany" (by decide)), gloB_ok X G (List.all_eq_true.mp x1 "BadName" (by decide)), gloB_ok X G (List.all_eq_true.mp x1 "BadText" (by decide)), gloB_ok X G (List.all_eq_true.mp x1 "BadPaper" (by decide)), gloB_ok X G (List.all_eq_true.mp x1 "BadLiar" (by decide)), gloB_ok X G (List.all_eq_true.mp x1 "Book" (by decide))⟩
  have hsup : mg ("super" : Str) = none := He.free_ok X G (c.fact 48 (f := .free "super") rfl)
  have E_BadName : ErrS PySem.Challenge.pw_liftedliars_k13_line_trees_judged K mg e_BadName := errB_ok (P := PySem.Challenge.pw_liftedliars_k13_line_trees_judged) X G (List.all_eq_true.mp x6 e_BadName (by simp [er])) (cc.err 3 (d := e_BadName) rfl) hsup (by decide +kernel) (by rfl) cc.th
  have E_BadPaper : ErrS PySem.Challenge.pw_liftedliars_k13_line_trees_judged K mg e_BadPaper := errB_ok (P := PySem.Challenge.pw_liftedliars_k13_line_trees_judged) X G (List.all_eq_true.mp x6 e_BadPaper (by simp [er])) (cc.err 5 (d := e_BadPaper) rfl) hsup (by decide +kernel) (by rfl) cc.th
  have E_TooMany : ErrS PySem.Challenge.pw_liftedliars_k13_line_trees_judged K mg e_TooMany := errB_ok (P := PySem.Challenge.pw_liftedliars_k13_line_trees_judged) X G (List.all_eq_true.mp x6 e_TooMany (by simp [er])) (cc.err 2 (d := e_TooMany) rfl) hsup (by decide +kernel) (by rfl) cc.th
  have E_BadWish : ErrS PySem.Challenge.pw_liftedliars_k13_line_trees_judged K mg e_BadWish := errB_ok (P := PySem.Challenge.pw_liftedliars_k13_line_trees_judged) X G (List.all_eq_true.mp x6 e_BadWish (by simp [er])) (cc.err 1 (d := e_BadWish) rfl) hsup (by decide +kernel) (by rfl) cc.th
  have E_BadNames : ErrS PySem.Challenge.pw_liftedliars_k13_line_trees_judged K mg e_BadNames := errB_ok (P := PySem.Challenge.pw_liftedliars_k13_line_trees_judged) X G (List.all_eq_true.mp x6 e_BadNames (by simp [er])) (cc.err 0 (d := e_BadNames) rfl) hsup (by decide +kernel) (by rfl) cc.th
  have e := hfa.symm.trans g_law
  cases e
  have b := FunD.bindsA (ps := ["script"]) F_law fun _ _ _ _ _ _ us hl => match us, hl with | [_], _ => rfl
  refine ⟨fd_law, fun s v => b s [v] rfl, fun base _ _ => ?_⟩
  have r_BadName := rr_BadName (w := w) (base := base) E_BadName
  have r_BadPaper := rr_BadPaper (w := w) (base := base) E_BadPaper
  have r_TooMany := rr_TooMany (w := w) (base := base) E_TooMany
  have r_BadWish := rr_BadWish (w := w) (base := base) E_BadWish
  have r_BadNames := rr_BadNames (w := w) (base := base) E_BadNames
  have o_line_of : FnD PySem.Challenge.pw_liftedliars_k13_line_trees_judged w K mg base "line_of" 1 2 m_line_of := ok_line_of F_line_of g_line_of B C 
  have o_within : FnD PySem.Challenge.pw_liftedliars_k13_line_trees_judged w K mg base "within" 1 2 m_within := ok_within F_within g_within B C 
  have o_answer_in : FnD PySem.Challenge.pw_liftedliars_k13_line_trees_judged w K mg base "answer_in" 1 2 m_answer_in := ok_answer_in F_answer_in g_answer_in B C 
  have o_row_is_right : FnD PySem.Challenge.pw_liftedliars_k13_line_trees_judged w K mg base "row_is_right" 1 2 m_row_is_right := ok_row_is_right F_row_is_right g_row_is_right B C 
  have o_node_fault : FnD PySem.Challenge.pw_liftedliars_k13_line_trees_judged w K mg base "node_fault" 112 3 (m_node_fault 110) := ok_node_fault F_node_fault g_node_fault B C o_line_of o_within o_answer_in o_row_is_right 110
  have o_line_tree_fault : FnD PySem.Challenge.pw_liftedliars_k13_line_trees_judged w K mg base "line_tree_fault" 113 2 m_line_tree_fault := ok_line_tree_fault F_line_tree_fault g_line_tree_fault B C o_line_of o_node_fault
  have o_with_answer : FnD PySem.Challenge.pw_liftedliars_k13_line_trees_judged w K mg base "with_answer" 3 3 m_with_answer := ok_with_answer F_with_answer g_with_answer B C r_BadName
  have o_walked_tree : FnD PySem.Challenge.pw_liftedliars_k13_line_trees_judged w K mg base "walked_tree" 114 2 (m_walked_tree 110) := ok_walked_tree F_walked_tree g_walked_tree B C o_with_answer o_answer_in 110
  have o_lines_tree : FnD PySem.Challenge.pw_liftedliars_k13_line_trees_judged w K mg base "lines_tree" 115 2 m_lines_tree := ok_lines_tree F_lines_tree g_lines_tree B C o_walked_tree o_line_tree_fault r_BadPaper
  have o__law_refused : FnD PySem.Challenge.pw_liftedliars_k13_line_trees_judged w K mg base "_law_refused" 116 2 m__law_refused := ok__law_refused F__law_refused g__law_refused B C o_lines_tree
  have o__law_same : FnD PySem.Challenge.pw_liftedliars_k13_line_trees_judged w K mg base "_law_same" 6 2 (m__law_same 5) := ok__law_same F__law_same g__law_same B C  5
  have o__law_leaf_rows : FnD PySem.Challenge.pw_liftedliars_k13_line_trees_judged w K mg base "_law_leaf_rows" 111 1 (m__law_leaf_rows 110) := ok__law_leaf_rows F__law_leaf_rows g__law_leaf_rows B C  110
  have o_line_tree_leaves : FnD PySem.Challenge.pw_liftedliars_k13_line_trees_judged w K mg base "line_tree_leaves" 111 1 (m_line_tree_leaves 110) := ok_line_tree_leaves F_line_tree_leaves g_line_tree_leaves B C  110
  have o__law_line : FnD PySem.Challenge.pw_liftedliars_k13_line_trees_judged w K mg base "_law_line" 1 2 m__law_line := ok__law_line F__law_line g__law_line B C 
  have o__law_right_row : FnD PySem.Challenge.pw_liftedliars_k13_line_trees_judged w K mg base "_law_right_row" 1 2 m__law_right_row := ok__law_right_row F__law_right_row g__law_right_row B C 
  have o__law_node_fault : FnD PySem.Challenge.pw_liftedliars_k13_line_trees_judged w K mg base "_law_node_fault" 112 4 (m__law_node_fault 110) := ok__law_node_fault F__law_node_fault g__law_node_fault B C o__law_line o__law_right_row 110
  have o__law_due : FnD PySem.Challenge.pw_liftedliars_k13_line_trees_judged w K mg base "_law_due" 113 3 m__law_due := ok__law_due F__law_due g__law_due B C o__law_line o__law_node_fault
  have o__law_judged : FnD PySem.Challenge.pw_liftedliars_k13_line_trees_judged w K mg base "_law_judged" 117 4 m__law_judged := ok__law_judged F__law_judged g__law_judged B C o__law_refused o__law_same o_line_tree_fault o__law_leaf_rows o_line_tree_leaves o__law_due
  have o__law_node : FnD PySem.Challenge.pw_liftedliars_k13_line_trees_judged w K mg base "_law_node" 1 2 m__law_node := ok__law_node F__law_node g__law_node B C 
  have o__law_put : FnD PySem.Challenge.pw_liftedliars_k13_line_trees_judged w K mg base "_law_put" 111 3 (m__law_put 110) := ok__law_put F__law_put g__law_put B C  110
  have o__law_spoilt_line : FnD PySem.Challenge.pw_liftedliars_k13_line_trees_judged w K mg base "_law_spoilt_line" 1 4 m__law_spoilt_line := ok__law_spoilt_line F__law_spoilt_line g__law_spoilt_line B C 
  have o__law_spoilt : FnD PySem.Challenge.pw_liftedliars_k13_line_trees_judged w K mg base "_law_spoilt" 2 5 m__law_spoilt := ok__law_spoilt F__law_spoilt g__law_spoilt B C o__law_spoilt_line
  have o__law_places : FnD PySem.Challenge.pw_liftedliars_k13_line_trees_judged w K mg base "_law_places" 111 2 (m__law_places 110) := ok__law_places F__law_places g__law_places B C  110
  have o__law_cell : FnD PySem.Challenge.pw_liftedliars_k13_line_trees_judged w K mg base "_law_cell" 1 2 m__law_cell := ok__law_cell F__law_cell g__law_cell B C 
  have o__law_seed : FnD PySem.Challenge.pw_liftedliars_k13_line_trees_judged w K mg base "_law_seed" 2 2 m__law_seed := ok__law_seed F__law_seed g__law_seed B C o__law_cell
  have o__law_draws : FnD PySem.Challenge.pw_liftedliars_k13_line_trees_judged w K mg base "_law_draws" 1 2 m__law_draws := ok__law_draws F__law_draws g__law_draws B C 
  have o__law_indexed : FnD PySem.Challenge.pw_liftedliars_k13_line_trees_judged w K mg base "_law_indexed" 111 2 (m__law_indexed 110) := ok__law_indexed F__law_indexed g__law_indexed B C  110
  have o_plain_row : FnD PySem.Challenge.pw_liftedliars_k13_line_trees_judged w K mg base "plain_row" 1 1 m_plain_row := ok_plain_row F_plain_row g_plain_row B C 
  have o_Book : MkD PySem.Challenge.pw_liftedliars_k13_line_trees_judged w K mg base "Book" 3 2 m_Book_init := ok_Book_init F_Book g_Book (He.mkr_ok (c.fact 49 (f := .mkr "Book") rfl)) B C o_row_is_right o_plain_row r_TooMany r_BadWish r_BadNames
  have o__law_wish : FnD PySem.Challenge.pw_liftedliars_k13_line_trees_judged w K mg base "_law_wish" 2 2 m__law_wish := ok__law_wish F__law_wish g__law_wish B C o__law_draws
  have o__law_part : FnD PySem.Challenge.pw_liftedliars_k13_line_trees_judged w K mg base "_law_part" 1 2 m__law_part := ok__law_part F__law_part g__law_part B C 
  have o__law_grow : FnD PySem.Challenge.pw_liftedliars_k13_line_trees_judged w K mg base "_law_grow" 112 6 (m__law_grow 110) := ok__law_grow F__law_grow g__law_grow B C o__law_part 110
  exact funD_ok F_law sc_law (body_law B C o_line_tree_fault o__law_judged o__law_node o__law_put o__law_spoilt o__law_places o__law_seed o__law_draws o__law_due o__law_indexed o_Book o__law_leaf_rows o__law_wish o__law_grow o__law_cell)
end LK
set_option Elab.async false
set_option linter.all false
set_option maxRecDepth 100000
namespace LK
open PySem PySem.Spec PyProof.Rows L2 DL
theorem okI (l : List Int) : okAL (l.map D.int) = true := okAL_map (fun _ => rfl) l
theorem cell_eq (ns : List Int) (k : Nat) (h : ns.length ≤ 63) : ∃ c : Int, m__law_cell [.lck (ns.map D.int), .int k] = some (.ok (.int c)) := by
  unfold m__law_cell b__law_cell
  by_cases hk : k < ns.length
  · have hi : ∀ μ, gIx μ (.lck (ns.map D.int)) (.int k) = some (.int (ns.getD k 0)) := fun μ => ix_int (.inr rfl) (by omega) (by omega)
    exact ⟨ns.getD k 0, by simp [hk, hi]⟩
  · exact ⟨0, by simp [hk]⟩
def Dr (l : List Int) : Prop := ∀ x ∈ l, 0 ≤ x ∧ x < 60
theorem Dr.snoc {l : List Int} {x : Int} (h : Dr l) (h0 : 0 ≤ x) (h1 : x < 60) : Dr (l ++ [x]) := fun y hy => by
  rcases List.mem_append.mp hy with q | q
  · exact h y q
  · rw [List.mem_singleton.mp q]; exact ⟨h0, h1⟩
theorem draws_b2 (c r n : Int) (l : List Int) (k : Nat) (hl : l.length ≤ 1000) :
    _law_draws_b2 [some (.int c), some (.int n), some (.ref 0), some (.int r), some (.int k), none, none] [.lst (l.map D.int)] =
      some (.nx, [some (.int c), some (.int n), some (.ref 0), some (.int (r / 60)), some (.int k), none, none], [.lst ((l ++ [r % 60]).map D.int)]) := by
  have h1 : ∀ d : Int, muAppend [.lst (l.map D.int)] (.ref 0) [.int d] = some (.non, [.lst ((l ++ [d]).map D.int)]) := fun d => by
    rw [app_ref (es := l.map D.int) rfl (by simp; omega) rfl]
    simp
  have h2 : ∀ μ, gModI μ (.int r) (.int 60) = some (.int (r % 60)) := fun μ => mod_int (by decide)
  have h3 : ∀ μ, gDivI μ (.int r) (.int 60) = some (.int (r / 60)) := fun μ => div_int ⟨by decide, by decide⟩
  unfold _law_draws_b2
  simp [h1, h2, h3]
theorem small_mul {i j : Int} (a b : Nat) (ha : i.natAbs < 2 ^ a) (hb : j.natAbs < 2 ^ b) (h0 : 0 < a := by decide) (h1 : 0 < b := by decide) (h : a + b ≤ 1000000 := by decide) : CMulW i j := wide_mul ha hb h0 h1 h
theorem draws_b1 (c r n st : Int) (o : Option D) (l : List Int) (k : Nat) (hk : k ≤ 1000) (hs : st.natAbs < 2 ^ 70) (hl : l.length ≤ 1000) : ∃ (st' x : Int) (o' : Option D), st'.natAbs < 2 ^ 70 ∧ 0 ≤ x ∧ x < 60 ∧
    _law_draws_b1 [some (.int c), some (.int n), some (.ref 0), some (.int r), some (.int k), some (.int st), o] [.lst (l.map D.int)] =
      some (.nx, [some (.int c), some (.int n), some (.ref 0), some (.int r), some (.int k), some (.int st'), o'], [.lst ((l ++ [x]).map D.int)]) := by
  have h1 : ∀ d : Int, muAppend [.lst (l.map D.int)] (.ref 0) [.int d] = some (.non, [.lst ((l ++ [d]).map D.int)]) := fun d => by
    rw [app_ref (es := l.map D.int) rfl (by simp; omega) rfl]
    simp
  have h2 : ∀ μ (r : Int), gModI μ (.int r) (.int 60) = some (.int (r % 60)) := fun μ r => mod_int (by decide)
  have h3 : ∀ μ (r : Int), gDivI μ (.int r) (.int 3) = some (.int (r / 3)) := fun μ r => div_int ⟨by decide, by decide⟩
  have h4 : ∀ μ (r : Int), gModI μ (.int r) (.int 2147483647) = some (.int (r % 2147483647)) := fun μ r => mod_int (by decide)
  have h5 : ∀ μ (r : Int), gModI μ (.int r) (.int 1000003) = some (.int (r % 1000003)) := fun μ r => mod_int (by decide)
  have h6 : ∀ μ, gMulA μ (.int st) (.int 48271) = some (.int (st * 48271)) := fun μ => mulA (small_mul 70 20 hs (by decide))
  have h7 : ∀ μ, gMulA μ (.int 12345) (.int k) = some (.int (12345 * k)) := fun μ => mulA (small_mul 20 20 (by decide) (by omega))
  have hst : ((st * 48271 + 12345 * k + 7) % 2147483647).natAbs < 2 ^ 70 := by omega
  have h8 : ∀ μ, gMulA μ (.int ((st * 48271 + 12345 * k + 7) % 2147483647)) (.int 69621) = some (.int ((st * 48271 + 12345 * k + 7) % 2147483647 * 69621)) := fun μ => mulA (small_mul 70 20 hst (by decide))
  refine ⟨(st * 48271 + 12345 * k + 7) % 2147483647, ((st * 48271 + 12345 * k + 7) % 2147483647 * 69621 + k) % 1000003 / 3 % 60, some (.int (((st * 48271 + 12345 * k + 7) % 2147483647 * 69621 + k) % 1000003)), hst, by omega, by omega, ?_⟩
  unfold _law_draws_b1
  simp only [sSeq_e, sAsg_e, sDrop_e, eOwn_e, eBin_e, eCB_e, eCons_e, eNil_e, eV_e, eC_e, eMu_e, List.getElem?_cons_zero, List.getElem?_cons_succ, h6, h7, DL.add_int, intA, h4, gD_e, List.set_cons_succ, List.set_cons_zero, h8, h5, h3, h2, isl_ref, h1]
theorem draws_eq (c : Int) (n : Nat) (h : n ≤ 100) : ∃ l : List Int, m__law_draws [.int c, .int n] = some (.ok (.new (l.map D.int))) ∧ l.length = n ∧ Dr l := by
  have hp : ∀ μ, gPowI μ (.int 10) (.int 18) = some (.int 1000000000000000000) := fun μ => by rw [pow_int ⟨by decide, by decide, by decide⟩]; rfl
  have hrange : ∀ (sd : Sl) (μ : Mem), sd[1]? = some (some (.int n)) → iR1 (eCons (eV 1) eNil) sd μ = some (.ok ((List.range n).map (fun i : Nat => D.int i), fun _ => True), μ) := fun sd μ q => iR1_of (by simp [q]) (by omega)
  generalize hr : (if c < 0 then -c else c) = r
  have hl2 : ∃ (sd : Sl) (l : List Int), _law_draws_l2 [some (.int c), some (.int n), some (.ref 0), some (.int r), none, none, none] [.lst []] = some (.nx, sd, [.lst (l.map D.int)]) ∧ l.length = n ∧ Dr l ∧ sd[2]? = some (some (.ref 0)) := by
    unfold _law_draws_l2
    rw [sFor_of (hrange _ _ rfl)]
    obtain ⟨sd2, μ2, h1, l, r', o, hl, hd, rfl, rfl⟩ := loop_nx (chk := fun _ => True) (t := gD 4) (b := _law_draws_b2) (fun i : Nat => D.int i)
      (fun dn sd μ => ∃ (l : List Int) (r' : Int) (o : Option D), l.length = dn.length ∧ Dr l ∧ sd = [some (.int c), some (.int n), some (.ref 0), some (.int r'), o, none, none] ∧ μ = [.lst (l.map D.int)]) (List.range n) [] _ _ ⟨[], r, none, rfl, fun x hx => by simp at hx, rfl, rfl⟩ (by
        rintro dn x rest sd μ he ⟨l, r', o, hl, hd, rfl, rfl⟩
        have hlen : dn.length < n := by have := congrArg List.length he; simp at this; omega
        exact ⟨_, _, rfl, _, _, draws_b2 c r' n l x (by omega), trivial, l ++ [r' % 60], r' / 60, some (.int x), by simp [hl], hd.snoc (by omega) (by omega), rfl, rfl⟩)
    exact ⟨_, l, h1, by simpa using hl, hd, rfl⟩
  have hl1 : r < 1000000000000000000 → ∃ (sd : Sl) (l : List Int), _law_draws_l1 [some (.int c), some (.int n), some (.ref 0), some (.int r), none, some (.int (r + 17)), none] [.lst []] = some (.nx, sd, [.lst (l.map D.int)]) ∧ l.length = n ∧ Dr l ∧ sd[2]? = some (some (.ref 0)) := fun hs => by
    unfold _law_draws_l1
    rw [sFor_of (hrange _ _ rfl)]
    obtain ⟨sd2, μ2, h1, l, st, o, o2, hl, hd, hs, rfl, rfl⟩ := loop_nx (chk := fun _ => True) (t := gD 4) (b := _law_draws_b1) (fun i : Nat => D.int i)
      (fun dn sd μ => ∃ (l : List Int) (st : Int) (o o2 : Option D), l.length = dn.length ∧ Dr l ∧ st.natAbs < 2 ^ 70 ∧ sd = [some (.int c), some (.int n), some (.ref 0), some (.int r), o, some (.int st), o2] ∧ μ = [.lst (l.map D.int)]) (List.range n) [] _ _
        ⟨[], r + 17, none, none, rfl, fun x hx => by simp at hx, by omega, rfl, rfl⟩ (by
        rintro dn x rest sd μ he ⟨l, st, o, o2, hl, hd, hst, rfl, rfl⟩
        have hlen : dn.length < n := by have := congrArg List.length he; simp at this; omega
        have hx : x < n := by
          have : x ∈ List.range n := by rw [show List.range n = dn ++ x :: rest from he]; simp
          simpa using this
        obtain ⟨st', y, o', a, b, b2, e⟩ := draws_b1 c r n st o2 l x (by omega) hst (by omega)
        exact ⟨_, _, rfl, _, _, e, trivial, l ++ [y], st', _, _, by simp [hl], hd.snoc b b2, a, rfl, rfl⟩)
    exact ⟨_, l, h1, by simpa using hl, hd, rfl⟩
  unfold m__law_draws b__law_draws
  by_cases hb : 1000000000000000000 ≤ r
  · obtain ⟨sd, l, e, hl, hd, hsd⟩ := hl2
    have ho : outD [.lst (l.map D.int)] (.ref 0) = some (.new (l.map D.int)) := out_ref rfl (plainL_int l)
    exact ⟨l, by simp [hr, hp, hb, e, hsd, ho], hl, hd⟩
  · obtain ⟨sd, l, e, hl, hd, hsd⟩ := hl1 (by omega)
    have ho : outD [.lst (l.map D.int)] (.ref 0) = some (.new (l.map D.int)) := out_ref rfl (plainL_int l)
    exact ⟨l, by simp [hr, hp, hb, e, hsd, ho], hl, hd⟩
end LK
namespace LK
open PySem PySem.Spec PyProof.Rows L2 DL
theorem seed_eq (ns : List Int) (k : Nat) (h : ns.length ≤ 63) (hk : k ≤ 1000) : ∃ c : Int, m__law_seed [.lck (ns.map D.int), .int k] = some (.ok (.int c)) := by
  have hp : ∀ μ, gPowI μ (.int 10) (.int 18) = some (.int 1000000000000000000) := fun μ => by rw [pow_int ⟨by decide, by decide, by decide⟩]; rfl
  obtain ⟨c0, h0⟩ := cell_eq ns k h
  generalize hr : (if c0 < 0 then -c0 else c0) = r
  have hl : ∃ (sd : Sl) (st : Int), _law_seed_l1 [some (.lck (ns.map D.int)), some (.int k), some (.int r), some (.int (5 + k)), none] [] = some (.nx, sd, []) ∧ sd[3]? = some (some (.int st)) := by
    unfold _law_seed_l1
    have hit : iSeq (eV 0) [some (.lck (ns.map D.int)), some (.int k), some (.int r), some (.int (5 + k)), none] [] = some (.ok (ns.map D.int, fun _ => True), []) := by simp
    rw [sFor_of hit]
    obtain ⟨sd2, μ2, h1, st, o, hs, rfl, rfl⟩ := loop_nx (chk := fun _ => True) (t := gD 4) (b := _law_seed_b1) (fun i : Int => D.int i)
      (fun dn sd μ => ∃ (st : Int) (o : Option D), st.natAbs < 2 ^ 70 ∧ sd = [some (.lck (ns.map D.int)), some (.int k), some (.int r), some (.int st), o] ∧ μ = []) ns [] _ _ ⟨5 + k, none, by omega, rfl, rfl⟩ (by
        rintro dn x rest sd μ he ⟨st, o, hs, rfl, rfl⟩
        refine ⟨_, _, rfl, _, _, ?_, trivial, (st * 31 + (if x < 0 then -x else x)) % 999999999989, some (.int x), by omega, rfl, rfl⟩
        have h2 : ∀ μ, gMulA μ (.int st) (.int 31) = some (.int (st * 31)) := fun μ => mulA (small_mul 70 20 hs (by decide))
        have h4 : ∀ μ (r : Int), gModI μ (.int r) (.int 999999999989) = some (.int (r % 999999999989)) := fun μ r => mod_int (by decide)
        unfold _law_seed_b1
        simp only [sAsg_e, eOwn_e, eBin_e, eCB_e, eCons_e, eNil_e, eV_e, eC_e, List.getElem?_cons_zero, List.getElem?_cons_succ, List.set_cons_succ, List.set_cons_zero, h2, h4, DL.abs_int, DL.add_int, intA, gD_e])
    exact ⟨_, st, h1, rfl⟩
  obtain ⟨sd, st, hl1, hl2⟩ := hl
  unfold m__law_seed b__law_seed
  have ho : okAL (ns.map D.int) = true := okI ns
  have ha : ∀ μ, argD μ (.lck (ns.map D.int)) = some (.lck (ns.map D.int)) := fun μ => if_pos ho
  by_cases hb : 1000000000000000000 ≤ r
  · exact ⟨r, by simp [ha, h0, hr, hp, hb]⟩
  · exact ⟨st, by simp [ha, h0, hr, hp, hb, hl1, hl2]⟩
end LK
set_option Elab.async false
set_option linter.all false
set_option maxRecDepth 100000
set_option maxHeartbeats 4000000
namespace LK
open PySem PySem.Spec PyProof.Rows L2 DL
/-! ### data -/
abbrev wd (a : Wd) : D := .tup [.int a.1, .int a.2]
abbrev rowD (r : Rw) : D := .tup (r.map wd)
abbrev plD (l : List Int) : D := .tup (l.map D.int)
theorem ok_wd (r : Rw) : okAL (r.map wd) = true := okAL_map (fun _ => rfl) r
theorem pl_wd (r : Rw) : plainL (r.map wd) = true := plainL_map (fun _ => rfl) r
theorem ok_row (ws : List Rw) : okAL (ws.map rowD) = true := okAL_map (e := rowD) (fun r => ok_wd r) ws
theorem pl_row (ws : List Rw) : plainL (ws.map rowD) = true := plainL_map (e := rowD) (fun r => pl_wd r) ws
theorem ok_int (l : List Int) : okAL (l.map D.int) = true := okAL_map (fun _ => rfl) l
theorem pl_int (l : List Int) : plainL (l.map D.int) = true := plainL_map (fun _ => rfl) l
@[simp] theorem arg_row (μ : Mem) (r : Rw) : argD μ (.tup (r.map wd)) = some (.tup (r.map wd)) := argD_tup (ok_wd r)
@[simp] theorem arg_pl (μ : Mem) (l : List Int) : argD μ (.tup (l.map D.int)) = some (.tup (l.map D.int)) := argD_tup (ok_int l)
@[simp] theorem arg_ws (μ : Mem) (ws : List Rw) : argD μ (.lst (ws.map rowD)) = some (.lst (ws.map rowD)) := if_pos (ok_row ws)
theorem in_wd (μ : Mem) (n : Bool) (a : Wd) (r : Rw) : gInA n μ (wd a) (rowD r) = some (.bl (if n then !decide (a ∈ r) else decide (a ∈ r))) := in_tup n a r
theorem in_wdN (μ : Mem) (n : Bool) (a : Wd) (r : Rw) : gInA n μ (wd a) (.new (r.map wd)) = some (.bl (if n then !decide (a ∈ r) else decide (a ∈ r))) := in_lst n a r (toPm_new μ r) (fun z q => by cases q)
theorem in_01 (μ : Mem) (n : Bool) (v : Int) : gInA n μ (.int v) (.tup [.int 0, .int 1]) = some (.bl (if n then !decide (v = 0 ∨ v = 1) else decide (v = 0 ∨ v = 1))) := by
  have h := in_tup (μ := μ) n v [0, 1]
  have e1 : decide (v ∈ [(0 : Int), 1]) = decide (v = 0 ∨ v = 1) := by
    rw [Bool.eq_iff_iff]
    simp
  rw [e1] at h
  exact h
theorem in_ints (μ : Mem) (n : Bool) (v : Int) (l : List Int) : gInA n μ (.int v) (.new (l.map D.int)) = some (.bl (if n then !decide (v ∈ l) else decide (v ∈ l))) := in_lst n v l (toPm_new μ l) (fun z q => by cases q)
theorem ix_k {μ : Mem} {ds : List D} {d : D} {i : Int} (k : Nat) (hi : i = k) (h : ds[k]? = some d) (hn : notNew d = true) : gIx μ (.tup ds) (.int i) = some d := by
  obtain ⟨hk, h2⟩ := List.getElem?_eq_some_iff.mp h
  refine gIx_int (.inl rfl) ?_ fun es q => by rw [q] at hn; cases hn
  rw [hi, atI_nat ds k hk, h2]
@[simp] theorem wd_0 (μ : Mem) (a : Wd) : gIx μ (.tup [.int a.1, .int a.2]) (.int 0) = some (.int a.1) := rfl
@[simp] theorem wd_1 (μ : Mem) (a : Wd) : gIx μ (.tup [.int a.1, .int a.2]) (.int 1) = some (.int a.2) := rfl
/-! ### rows -/
/-- names ascending from above last, each at most names, values 0 or 1 -/
def rgt (names : Int) : Int → Rw → Bool
  | _, [] => true
  | last, a :: r => decide (last < a.1 ∧ a.1 ≤ names) && (decide (a.2 = 0 ∨ a.2 = 1) && rgt names a.1 r)
theorem loop_go {chk : Mem → Prop} {t : TgD} {b : SS} {d : D} {ds : List D} {sd sd1 sd2 : Sl} {μ μ1 μ2 : Mem} (h1 : t sd μ d = some (sd1, μ1)) (h2 : b sd1 μ1 = some (.nx, sd2, μ2)) (hc : chk μ2) : loopF chk t b (d :: ds) sd μ = loopF chk t b ds sd2 μ2 := by
  conv => lhs; unfold loopF
  rw [h1]
  simp only [h2, hc, if_true]
theorem loop_rt {chk : Mem → Prop} {t : TgD} {b : SS} {d v : D} {ds : List D} {sd sd1 sd2 : Sl} {μ μ1 μ2 : Mem} (h1 : t sd μ d = some (sd1, μ1)) (h2 : b sd1 μ1 = some (.ret v, sd2, μ2)) : loopF chk t b (d :: ds) sd μ = some (.ret v, sd2, μ2) := by
  conv => lhs; unfold loopF
  rw [h1]
  simp only [h2]
theorem right_eq (names : Int) (r : Rw) : m_row_is_right [.int names, rowD r] = some (.ok (.bl (rgt names 0 r))) := by
  have key : ∀ (l : Rw) (last : Int) (o1 o2 : Option D), ∃ sd, loopF (fun _ => True) (gTupD (gConsD (gD 3) (gConsD (gD 4) (gNilD)))) row_is_right_b1 (l.map wd) [some (.int names), some (rowD r), some (.int last), o1, o2] [] =
      if rgt names last l = true then some (.nx, sd, []) else some (.ret (.bl false), sd, []) := by
    intro l
    induction l with
    | nil => intro last o1 o2; exact ⟨_, rfl⟩
    | cons a l ih =>
      intro last o1 o2
      by_cases h : (last < a.1 ∧ a.1 ≤ names) ∧ (a.2 = 0 ∨ a.2 = 1)
      · have hb : row_is_right_b1 [some (.int names), some (rowD r), some (.int last), some (.int a.1), some (.int a.2)] [] = some (.nx, [some (.int names), some (rowD r), some (.int a.1), some (.int a.1), some (.int a.2)], []) := by
          have h1 : ¬ a.1 ≤ last := by omega
          have h2 : ¬ a.1 > names := by omega
          unfold row_is_right_b1
          simp [in_01, h1, h2, h.2]
        rw [List.map_cons, loop_go (sd1 := [some (.int names), some (rowD r), some (.int last), some (.int a.1), some (.int a.2)]) (μ1 := []) rfl hb trivial]
        obtain ⟨sd, e⟩ := ih a.1 (some (.int a.1)) (some (.int a.2))
        refine ⟨sd, ?_⟩
        rw [e]
        simp [rgt, h]
      · have hb : row_is_right_b1 [some (.int names), some (rowD r), some (.int last), some (.int a.1), some (.int a.2)] [] = some (.ret (.bl false), [some (.int names), some (rowD r), some (.int last), some (.int a.1), some (.int a.2)], []) := by
          unfold row_is_right_b1
          by_cases h1 : a.1 ≤ last
          · simp [in_01, h1]
          · by_cases h2 : a.1 > names
            · simp [in_01, h1, h2]
            · have h3 : ¬ (a.2 = 0 ∨ a.2 = 1) := fun q => h ⟨⟨by omega, by omega⟩, q⟩
              simp [in_01, h1, h2, h3]
        rw [List.map_cons, loop_rt (sd1 := [some (.int names), some (rowD r), some (.int last), some (.int a.1), some (.int a.2)]) (μ1 := []) rfl hb]
        refine ⟨[some (.int names), some (rowD r), some (.int last), some (.int a.1), some (.int a.2)], ?_⟩
        have hf : rgt names last (a :: l) = false := by
          rw [Bool.eq_false_iff]
          intro q
          simp only [rgt, Bool.and_eq_true, decide_eq_true_eq] at q
          exact h ⟨q.1, q.2.1⟩
        rw [hf]
        rfl
  obtain ⟨sd, e⟩ := key r 0 none none
  unfold m_row_is_right b_row_is_right row_is_right_l1
  have hit : ∀ sd : Sl, sd[1]? = some (some (rowD r)) → iSeq (eV 1) sd [] = some (.ok (r.map wd, fun _ => True), []) := fun sd h => by simp [h]
  rw [runF_def]
  simp only [List.map_cons, List.map_nil, List.length_cons, List.length_nil, List.cons_append, List.nil_append, Nat.zero_add, Nat.reduceAdd, Nat.reduceSub, List.reduceReplicate]
  rw [sSeq_of (sd1 := [some (.int names), some (rowD r), some (.int 0), none, none]) (μ1 := []) (by simp)]
  by_cases h : rgt names 0 r = true
  · rw [sSeq_of (sd1 := sd) (μ1 := []) (by rw [sFor_of (hit _ rfl), e, if_pos h])]
    simp [h]
  · rw [sSeq_ret (sd1 := sd) (μ1 := []) (by rw [sFor_of (hit _ rfl), e, if_neg h])]
    simp [h]
theorem lawRight_eq (names : Int) (r : Rw) : m__law_right_row [.int names, rowD r] = some (.ok (.bl (rgt names 0 r))) := by
  have key : ∀ (l : Rw) (last : Int) (o1 : Option D), ∃ sd, loopF (fun _ => True) (gD 3) _law_right_row_b1 (l.map wd) [some (.int names), some (rowD r), some (.int last), o1] [] =
      if rgt names last l = true then some (.nx, sd, []) else some (.ret (.bl false), sd, []) := by
    intro l
    induction l with
    | nil => intro last o1; exact ⟨_, rfl⟩
    | cons a l ih =>
      intro last o1
      by_cases h : (last < a.1 ∧ a.1 ≤ names) ∧ (a.2 = 0 ∨ a.2 = 1)
      · have hb : _law_right_row_b1 [some (.int names), some (rowD r), some (.int last), some (wd a)] [] = some (.nx, [some (.int names), some (rowD r), some (.int a.1), some (wd a)], []) := by
          unfold _law_right_row_b1
          simp [in_01, h.1, h.2]
        rw [List.map_cons, loop_go (sd1 := [some (.int names), some (rowD r), some (.int last), some (wd a)]) (μ1 := []) rfl hb trivial]
        obtain ⟨sd, e⟩ := ih a.1 (some (wd a))
        refine ⟨sd, ?_⟩
        rw [e]
        simp [rgt, h]
      · have hb : _law_right_row_b1 [some (.int names), some (rowD r), some (.int last), some (wd a)] [] = some (.ret (.bl false), [some (.int names), some (rowD r), some (.int last), some (wd a)], []) := by
          unfold _law_right_row_b1
          by_cases h1 : last < a.1
          · by_cases h2 : a.1 ≤ names
            · have h3 : ¬ (a.2 = 0 ∨ a.2 = 1) := fun q => h ⟨⟨h1, h2⟩, q⟩
              simp [in_01, h1, h2, h3]
            · simp [in_01, h1, h2]
          · simp [in_01, h1]
        rw [List.map_cons, loop_rt (sd1 := [some (.int names), some (rowD r), some (.int last), some (wd a)]) (μ1 := []) rfl hb]
        refine ⟨[some (.int names), some (rowD r), some (.int last), some (wd a)], ?_⟩
        have hf : rgt names last (a :: l) = false := by
          rw [Bool.eq_false_iff]
          intro q
          simp only [rgt, Bool.and_eq_true, decide_eq_true_eq] at q
          exact h ⟨q.1, q.2.1⟩
        rw [hf]
        rfl
  obtain ⟨sd, e⟩ := key r 0 none
  unfold m__law_right_row b__law_right_row _law_right_row_l1
  have hit : ∀ sd : Sl, sd[1]? = some (some (rowD r)) → iSeq (eV 1) sd [] = some (.ok (r.map wd, fun _ => True), []) := fun sd h => by simp [h]
  rw [runF_def]
  simp only [List.map_cons, List.map_nil, List.length_cons, List.length_nil, List.cons_append, List.nil_append, Nat.zero_add, Nat.reduceAdd, Nat.reduceSub, List.reduceReplicate]
  rw [sSeq_of (sd1 := [some (.int names), some (rowD r), some (.int 0), none]) (μ1 := []) (by simp)]
  by_cases h : rgt names 0 r = true
  · rw [sSeq_of (sd1 := sd) (μ1 := []) (by rw [sFor_of (hit _ rfl), e, if_pos h])]
    simp [h]
  · rw [sSeq_ret (sd1 := sd) (μ1 := []) (by rw [sFor_of (hit _ rfl), e, if_neg h])]
    simp [h]
theorem within_eq (r s : Rw) (hl : r.length ≤ 1000) : m_within [rowD r, rowD s] = some (.ok (.bl (r.all fun a => decide (a ∈ s)))) := by
  have hc : within_c1 [some (rowD r), some (rowD s), none] [] = some (.ok (.new (r.map fun a => D.bl (decide (a ∈ s)))), []) := by
    unfold within_c1
    refine eLc_all (chk := fun _ => True) r wd (fun a => D.bl (decide (a ∈ s))) (by simp) rfl (by omega) trivial fun a ha => ⟨_, rfl, ?_, rfl⟩
    simp [wipeD, in_wd]
  unfold m_within b_within
  have h2 : ∀ μ, gAll μ [.new (r.map fun a => D.bl (decide (a ∈ s)))] = some (.bl (r.all fun a => decide (a ∈ s))) := fun μ => by
    have := all_new μ (r.map fun a => decide (a ∈ s))
    rw [List.map_map, List.all_map] at this
    exact this
  simp [hc, h2]
/-- the first answer to a name -/
def ans (n : Int) : Rw → Option Int
  | [] => none
  | a :: r => if a.1 = n then some a.2 else ans n r
def ansD (o : Option Int) : D := match o with
  | none => .non
  | some v => .int v
theorem answer_eq (r : Rw) (n : Int) : m_answer_in [rowD r, .int n] = some (.ok (ansD (ans n r))) := by
  have key : ∀ (l : Rw) (o1 o2 : Option D), ∃ sd, loopF (fun _ => True) (gTupD (gConsD (gD 2) (gConsD (gD 3) (gNilD)))) answer_in_b1 (l.map wd) [some (rowD r), some (.int n), o1, o2] [] =
      match ans n l with
      | none => some (.nx, sd, [])
      | some v => some (.ret (.int v), sd, []) := by
    intro l
    induction l with
    | nil => intro o1 o2; exact ⟨_, rfl⟩
    | cons a l ih =>
      intro o1 o2
      by_cases h : a.1 = n
      · have hb : answer_in_b1 [some (rowD r), some (.int n), some (.int a.1), some (.int a.2)] [] = some (.ret (.int a.2), [some (rowD r), some (.int n), some (.int a.1), some (.int a.2)], []) := by
          unfold answer_in_b1
          simp [h]
        rw [List.map_cons, loop_rt (sd1 := [some (rowD r), some (.int n), some (.int a.1), some (.int a.2)]) (μ1 := []) rfl hb]
        refine ⟨[some (rowD r), some (.int n), some (.int a.1), some (.int a.2)], ?_⟩
        rw [show ans n (a :: l) = some a.2 from if_pos h]
      · have hb : answer_in_b1 [some (rowD r), some (.int n), some (.int a.1), some (.int a.2)] [] = some (.nx, [some (rowD r), some (.int n), some (.int a.1), some (.int a.2)], []) := by
          unfold answer_in_b1
          simp [h]
        rw [List.map_cons, loop_go (sd1 := [some (rowD r), some (.int n), some (.int a.1), some (.int a.2)]) (μ1 := []) rfl hb trivial]
        obtain ⟨sd, e⟩ := ih (some (.int a.1)) (some (.int a.2))
        refine ⟨sd, ?_⟩
        rw [e, show ans n (a :: l) = ans n l from if_neg h]
  obtain ⟨sd, e⟩ := key r none none
  unfold m_answer_in b_answer_in answer_in_l1
  have hit : ∀ sd : Sl, sd[0]? = some (some (rowD r)) → iSeq (eV 0) sd [] = some (.ok (r.map wd, fun _ => True), []) := fun sd h => by simp [h]
  rw [runF_def]
  simp only [List.map_cons, List.map_nil, List.length_cons, List.length_nil, List.cons_append, List.nil_append, Nat.zero_add, Nat.reduceAdd, Nat.reduceSub, List.reduceReplicate]
  cases h : ans n r with
  | none =>
    rw [h] at e
    rw [sSeq_of (sd1 := sd) (μ1 := []) ((sFor_of (hit _ rfl)).trans e)]
    simp [ansD]
  | some v =>
    rw [h] at e
    rw [sSeq_ret (sd1 := sd) (μ1 := []) ((sFor_of (hit _ rfl)).trans e)]
    simp [ansD]
theorem ans_none {n : Int} : ∀ {r : Rw}, ans n r = none ↔ n ∉ r.map (·.1)
  | [] => by simp [ans]
  | a :: r => by
    have ih := @ans_none n r
    unfold ans
    by_cases h : a.1 = n
    · simp [h]
    · rw [if_neg h, ih]
      simp [Ne.symm h]
theorem ans_mem {n v : Int} : ∀ {r : Rw}, ans n r = some v → (n, v) ∈ r
  | [], h => by cases h
  | a :: r, h => by
    unfold ans at h
    split at h
    · rename_i q
      cases h
      rw [← q]
      exact List.mem_cons_self
    · exact List.mem_cons_of_mem _ (ans_mem h)
end LK
set_option Elab.async false
set_option linter.all false
set_option maxRecDepth 100000
set_option maxHeartbeats 4000000
namespace LK
open PySem PySem.Spec PyProof.Rows L2 DL
/-! ### line trees -/
inductive Tr (α : Type) where
  | w (a : α)
  | f (n : Int) (line : Rw) (l r : Tr α)
def trD {α : Type} (e : α → D) : Tr α → D
  | .w a => .tup [.str "wish", e a]
  | .f n line l r => .tup [.str "from", .int n, rowD line, trD e l, trD e r]
abbrev pD : Tr Int → D := trD D.int
theorem str_eqT (μ : Mem) : gEqD false μ (.str "wish") (.str "wish") = some (.bl true) := by kernel_rfl
theorem str_eqF (μ : Mem) : gEqD false μ (.str "from") (.str "wish") = some (.bl false) := by kernel_rfl
section
variable {α : Type} {e : α → D}
theorem tr_ok (he : ∀ a, okA (e a) = true) : ∀ t : Tr α, okA (trD e t) = true
  | .w a => by show (true && (okA (e a) && true)) = true; rw [he a]; rfl
  | .f n line l r => by
    show (true && (true && (okAL (line.map wd) && (okA (trD e l) && (okA (trD e r) && true))))) = true
    rw [ok_wd, tr_ok he l, tr_ok he r]; rfl
theorem tr_plain (he : ∀ a, DL.plain (e a) = true) : ∀ t : Tr α, DL.plain (trD e t) = true
  | .w a => by show (true && (DL.plain (e a) && true)) = true; rw [he a]; rfl
  | .f n line l r => by
    show (true && (true && (plainL (line.map wd) && (DL.plain (trD e l) && (DL.plain (trD e r) && true))))) = true
    rw [pl_wd, tr_plain he l, tr_plain he r]; rfl
theorem tr_nn : ∀ t : Tr α, notNew (trD e t) = true
  | .w _ => rfl
  | .f _ _ _ _ => rfl
def dp : Tr α → Nat
  | .w _ => 0
  | .f _ _ l r => max (dp l) (dp r) + 1
def Sz : Tr α → Prop
  | .w _ => True
  | .f _ line l r => line.length ≤ 1000 ∧ Sz l ∧ Sz r
def cnt : Tr α → Nat
  | .w _ => 1
  | .f _ _ l r => cnt l + cnt r
end
theorem arg_of {μ : Mem} {d : D} (h : okA d = true) : argD μ d = some d := by
  cases d <;> first | rfl | exact if_pos h | exact absurd h (by simp [okA])
theorem pD_ok (t : Tr Int) : okA (pD t) = true := tr_ok (fun _ => rfl) t
@[simp] theorem arg_pD (μ : Mem) (t : Tr Int) : argD μ (pD t) = some (pD t) := arg_of (pD_ok t)
theorem f_ix (μ : Mem) {α : Type} (e : α → D) (n : Int) (line : Rw) (l r : Tr α) :
    gIx μ (trD e (.f n line l r)) (.int 0) = some (.str "from") ∧ gIx μ (trD e (.f n line l r)) (.int 1) = some (.int n) ∧ gIx μ (trD e (.f n line l r)) (.int 2) = some (rowD line) ∧ gIx μ (trD e (.f n line l r)) (.int 3) = some (trD e l) ∧ gIx μ (trD e (.f n line l r)) (.int 4) = some (trD e r) :=
  ⟨ix_k 0 rfl rfl rfl, ix_k 1 rfl rfl rfl, ix_k 2 rfl rfl rfl, ix_k 3 rfl rfl (tr_nn l), ix_k 4 rfl rfl (tr_nn r)⟩
theorem w_ix (μ : Mem) {α : Type} (e : α → D) (a : α) (h : notNew (e a) = true) : gIx μ (trD e (.w a)) (.int 0) = some (.str "wish") ∧ gIx μ (trD e (.w a)) (.int 1) = some (e a) :=
  ⟨ix_k 0 rfl rfl rfl, ix_k 1 rfl rfl h⟩
/-! ### the line at a node -/
def lineOf (ws : List Rw) : Tr Int → Rw
  | .w i => ws.getD i.toNat []
  | .f _ line _ _ => line
def Vl (ws : List Rw) : Tr Int → Prop
  | .w i => 0 ≤ i ∧ i < ws.length
  | .f _ _ _ _ => True
abbrev bk (names : Int) (ws : List Rw) : D := .obj "Book" [("names", .int names), ("wishes", .tup (ws.map rowD))]
theorem bk_ok (names : Int) (ws : List Rw) : okA (bk names ws) = true := by
  show (true && (okAL (ws.map rowD) && true)) = true
  rw [ok_row]; rfl
@[simp] theorem arg_bk (μ : Mem) (names : Int) (ws : List Rw) : argD μ (bk names ws) = some (bk names ws) := arg_of (bk_ok names ws)
theorem bk_w (μ : Mem) (names : Int) (ws : List Rw) : (insD μ (bk names ws)).bind (getF fldT "wishes") = some (.tup (ws.map rowD)) := by kernel_rfl
theorem bk_n (μ : Mem) (names : Int) (ws : List Rw) : (insD μ (bk names ws)).bind (getF fldT "names") = some (.int names) := by kernel_rfl
theorem ws_ix {μ : Mem} {x : D} {ws : List Rw} {i : Int} (hx : x = .tup (ws.map rowD) ∨ lsAny μ x = some (ws.map rowD)) (h : 0 ≤ i ∧ i < ws.length) : gIx μ x (.int i) = some (rowD (ws.getD i.toNat [])) := ix_map [] hx h.1 h.2 fun _ _ q => by cases q
theorem lawLine_eq {ws : List Rw} {p : Tr Int} (h : Vl ws p) : m__law_line [.lst (ws.map rowD), pD p] = some (.ok (rowD (lineOf ws p))) := by
  have ho : ∀ (μ : Mem) (r : Rw), outD μ (rowD r) = some (rowD r) := fun μ r => out_tup (pl_wd r)
  unfold m__law_line b__law_line
  cases p with
  | w i =>
    obtain ⟨h0, h1⟩ := w_ix [] D.int i rfl
    have h2 : gIx [] (.lst (ws.map rowD)) (.int i) = some (rowD (ws.getD i.toNat [])) := ws_ix (.inr rfl) h
    generalize hq : pD (.w i) = q
    rw [show trD D.int (.w i) = q from hq] at h0 h1
    have hq2 : notNew q = true := by rw [← hq]; rfl
    rw [← hq]
    simp [trD] at hq
    subst hq
    simp [h0, h1, str_eqT, h2, ho, lineOf, trD]
  | f n line l r =>
    obtain ⟨h0, _, h2, _⟩ := f_ix [] D.int n line l r
    simp only [trD] at h0 h2
    simp [trD, h0, h2, str_eqF, ho, lineOf]
theorem line_eq {names : Int} {ws : List Rw} {p : Tr Int} (h : Vl ws p) : m_line_of [bk names ws, pD p] = some (.ok (rowD (lineOf ws p))) := by
  have ho : ∀ (μ : Mem) (r : Rw), outD μ (rowD r) = some (rowD r) := fun μ r => out_tup (pl_wd r)
  unfold m_line_of b_line_of
  cases p with
  | w i =>
    obtain ⟨h0, h1⟩ := w_ix [] D.int i rfl
    have h2 : gIx [] (.tup (ws.map rowD)) (.int i) = some (rowD (ws.getD i.toNat [])) := ws_ix (.inl rfl) h
    simp only [trD] at h0 h1
    simp [trD, h0, h1, str_eqT, bk_w, h2, ho, lineOf]
  | f n line l r =>
    obtain ⟨h0, _, h2, _⟩ := f_ix [] D.int n line l r
    simp only [trD] at h0 h2
    simp [trD, h0, h2, str_eqF, ho, lineOf]
end LK
set_option Elab.async false
set_option linter.all false
set_option maxRecDepth 100000
set_option maxHeartbeats 8000000
namespace LK
open PySem PySem.Spec PyProof.Rows L2 DL
/-! ### the first fault -/
abbrev Fa2 := Option (List Int × Str)
def side (ws : List Rw) (line : Rw) (n v : Int) (p : Tr Int) : Bool := (lineOf ws p).all fun a => decide (a ∈ line ++ [(n, v)])
def nf (names : Int) (ws : List Rw) : Tr Int → List Int → Fa2
  | .w i, pl => if 0 ≤ i ∧ i < ws.length then none else some (pl, "wish")
  | .f n line l r, pl => match nf names ws l (pl ++ [0]) with
    | some x => some x
    | none => match nf names ws r (pl ++ [1]) with
      | some x => some x
      | none => if rgt names 0 line = false then some (pl, "line") else if ¬(1 ≤ n ∧ n ≤ names) then some (pl, "name") else if n ∈ line.map (·.1) then some (pl, "asked") else
          if side ws line n 1 l = false then some (pl, "left") else if side ws line n 0 r = false then some (pl, "right") else none
def ftD : Fa2 → D
  | none => .non
  | some (pl, k) => .tup [plD pl, .str k]
theorem nf_vl {names : Int} {ws : List Rw} {p : Tr Int} {pl : List Int} (h : nf names ws p pl = none) : Vl ws p := by
  cases p with
  | w i =>
    unfold nf at h
    split at h
    · assumption
    · cases h
  | f => trivial
theorem ft_out (μ : Mem) (x : Fa2) : outD μ (ftD x) = some (ftD x) := by
  cases x with
  | none => rfl
  | some z =>
    refine out_tup ?_
    show (plainL (z.1.map D.int) && (true && true)) = true
    rw [pl_int]; rfl
theorem ft_nn (x : Fa2) : notNew (ftD x) = true := by cases x <;> rfl
theorem isN_ft (μ : Mem) (n : Bool) (x : Fa2) : gIsN n μ (ftD x) .non = some (.bl (if n then x.isSome else !x.isSome)) := by
  cases x <;> cases n <;> rfl
theorem gd_ft (i : Nat) (sd : Sl) (μ : Mem) (x : Fa2) : gD i sd μ (ftD x) = some (sd.set i (some (ftD x)), μ) := by cases x <;> rfl
theorem pl_add (μ : Mem) (pl : List Int) (i : Int) (h : pl.length ≤ 1000) : gAdd μ (plD pl) (.tup [.int i]) = some (plD (pl ++ [i])) := by
  rw [add_tup (by rw [List.length_map]; simp; omega)]
  simp
theorem row_add (μ : Mem) (r : Rw) (n v : Int) (h : r.length ≤ 1000) : gAdd μ (rowD r) (.tup [.tup [.int n, .int v]]) = some (rowD (r ++ [(n, v)])) := by
  rw [add_tup (by rw [List.length_map]; simp; omega)]
  simp
theorem lineOf_sz {ws : List Rw} {p : Tr Int} (hw : ∀ r ∈ ws, r.length ≤ 1000) (h : Sz p) : (lineOf ws p).length ≤ 1000 := by
  cases p with
  | w i =>
    show (ws.getD i.toNat []).length ≤ 1000
    rw [List.getD_eq_getElem?_getD]
    cases q : ws[i.toNat]? with
    | none => simp
    | some r => simpa using hw r (List.mem_of_getElem? q)
  | f n line l r => exact h.1
theorem node_fault_eq (names : Int) (ws : List Rw) (hw : ∀ r ∈ ws, r.length ≤ 1000) : ∀ (m : Nat) (p : Tr Int) (pl : List Int), dp p < m → Sz p → pl.length + dp p ≤ 1000 → m_node_fault m [bk names ws, pD p, plD pl] = some (.ok (ftD (nf names ws p pl))) := by
  intro m
  induction m with
  | zero => intro p pl h; omega
  | succ m ih =>
    intro p pl hd hs hp
    have hout : ∀ (μ : Mem) (k : Str), outD μ (.tup [plD pl, .str k]) = some (.tup [plD pl, .str k]) := fun μ k => ft_out μ (some (pl, k))
    unfold m_node_fault b_node_fault
    cases p with
    | w i =>
      obtain ⟨h0, h1⟩ := w_ix [] D.int i rfl
      simp only [trD] at h0 h1
      unfold nf
      by_cases c1 : 0 ≤ i
      · by_cases c2 : i < ws.length
        · simp [trD, h0, h1, str_eqT, bk_w, c1, c2, ftD]
        · simp [trD, h0, h1, str_eqT, bk_w, c1, c2, ftD, hout]
      · simp [trD, h0, h1, str_eqT, bk_w, c1, ftD, hout]
    | f n line l r =>
      simp only [dp] at hd hp
      obtain ⟨hsl, hs1, hs2⟩ := hs
      have ihl := ih l (pl ++ [0]) (by omega) hs1 (by simp; omega)
      have ihr := ih r (pl ++ [1]) (by omega) hs2 (by simp; omega)
      obtain ⟨h0, h1, h2, h3, h4⟩ := f_ix [] D.int n line l r
      generalize hP : pD (.f n line l r) = P at h0 h1 h2 h3 h4
      rw [show trD D.int (.f n line l r) = P from hP] at h0 h1 h2 h3 h4
      have hPn : notNew P = true := by rw [← hP]; rfl
      have hra : ∀ μ, argD μ P = some P := fun μ => by rw [← hP]; exact arg_pD μ _
      -- the two sides
      have body2 : ∀ (k : Int) (c : Tr Int) (o5 o6 o7 : Option D), gIx [] P (.int (3 + k)) = some (pD c) → m_node_fault m [bk names ws, pD c, plD (pl ++ [k])] = some (.ok (ftD (nf names ws c (pl ++ [k])))) →
          node_fault_b2 (m_node_fault m) [some (bk names ws), some P, some (plD pl), some (.int n), some (rowD line), some (.int k), o6, o7] [] =
            match nf names ws c (pl ++ [k]) with
            | none => some (.nx, [some (bk names ws), some P, some (plD pl), some (.int n), some (rowD line), some (.int k), some .non, o7], [])
            | some x => some (.ret (ftD (some x)), [some (bk names ws), some P, some (plD pl), some (.int n), some (rowD line), some (.int k), some (ftD (some x)), o7], []) := fun k c o5 o6 o7 hx hm => by
        unfold node_fault_b2
        cases hnf : nf names ws c (pl ++ [k]) with
        | none =>
          rw [hnf] at hm
          simp [-List.map_append, -eV_e, -eOwn_e, -gD_e, eV_n, eOwn_n, gD_n, hPn, hx, pl_add [] pl k (by omega), hm, ft_nn, tr_nn, isN_ft]
          rfl
        | some x =>
          rw [hnf] at hm
          simp [-List.map_append, -eV_e, -eOwn_e, -gD_e, eV_n, eOwn_n, gD_n, hPn, hx, pl_add [] pl k (by omega), hm, ft_nn, tr_nn, isN_ft, ft_out]
      have hS1 : (sIf (qB (eBin (gEqD false) (eBin gIx (eV 1) (eC (.int 0))) (eC (.str "wish")))) (sRet (eIf (qB (eChain gLeI gLtI (eC (.int 0)) (eBin gIx (eV 1) (eC (.int 1))) (eCB gLen (eCons (eFld fldT "wishes" (eV 0)) (eNil))))) (eC .non) (eTup (eCons (eV 2) (eCons (eC (.str "wish")) (eNil)))))) (sSkip)) [some (bk names ws), some P, some (plD pl), none, none, none, none, none] [] = some (.nx, [some (bk names ws), some P, some (plD pl), none, none, none, none, none], []) := by
        simp [-eV_e, eV_n, hPn, h0, str_eqF]
      have hS2 : sPar 3 4 (eCons (eBin gIx (eV 1) (eC (.int 1))) (eCons (eBin gIx (eV 1) (eC (.int 2))) (eNil))) [some (bk names ws), some P, some (plD pl), none, none, none, none, none] [] = some (.nx, [some (bk names ws), some P, some (plD pl), some (.int n), some (rowD line), none, none, none], []) := by
        simp [-eV_e, eV_n, hPn, h1, h2]
      have hit : ∀ sd : Sl, iSeq (eTup (eCons (eC (.int 0)) (eCons (eC (.int 1)) (eNil)))) sd [] = some (.ok ([.int 0, .int 1], fun _ => True), []) := fun sd => by simp
      have e3 : gIx [] P (.int (3 + 0)) = some (pD l) := h3
      have e4 : gIx [] P (.int (3 + 1)) = some (pD r) := h4
      have hL2 : node_fault_l2 (m_node_fault m) [some (bk names ws), some P, some (plD pl), some (.int n), some (rowD line), none, none, none] [] =
          match nf names ws l (pl ++ [0]) with
          | some x => some (.ret (ftD (some x)), [some (bk names ws), some P, some (plD pl), some (.int n), some (rowD line), some (.int 0), some (ftD (some x)), none], [])
          | none => match nf names ws r (pl ++ [1]) with
            | some x => some (.ret (ftD (some x)), [some (bk names ws), some P, some (plD pl), some (.int n), some (rowD line), some (.int 1), some (ftD (some x)), none], [])
            | none => some (.nx, [some (bk names ws), some P, some (plD pl), some (.int n), some (rowD line), some (.int 1), some .non, none], []) := by
        unfold node_fault_l2
        rw [sFor_of (hit _)]
        have b0 := body2 0 l none none none e3 ihl
        cases hl : nf names ws l (pl ++ [0]) with
        | some x =>
          rw [hl] at b0
          rw [loop_rt (sd1 := [some (bk names ws), some P, some (plD pl), some (.int n), some (rowD line), some (.int 0), none, none]) (μ1 := []) rfl b0]
        | none =>
          rw [hl] at b0
          rw [loop_go (sd1 := [some (bk names ws), some P, some (plD pl), some (.int n), some (rowD line), some (.int 0), none, none]) (μ1 := []) rfl b0 trivial]
          have b1 := body2 1 r none (some .non) none e4 ihr
          cases hr : nf names ws r (pl ++ [1]) with
          | some x =>
            rw [hr] at b1
            rw [loop_rt (sd1 := [some (bk names ws), some P, some (plD pl), some (.int n), some (rowD line), some (.int 1), some .non, none]) (μ1 := []) rfl b1]
          | none =>
            rw [hr] at b1
            rw [loop_go (sd1 := [some (bk names ws), some P, some (plD pl), some (.int n), some (rowD line), some (.int 1), some .non, none]) (μ1 := []) rfl b1 trivial]
            rfl
      have hR : (sIf (qNot (qTru (eCall (m_row_is_right) 2 (eCons (eFld fldT "names" (eV 0)) (eCons (eV 4) (eNil)))))) (sRet (eTup (eCons (eV 2) (eCons (eC (.str "line")) (eNil))))) (sSkip)) [some (bk names ws), some P, some (plD pl), some (.int n), some (rowD line), some (.int 1), some .non, none] [] =
          if rgt names 0 line = false then some (.ret (ftD (some (pl, "line"))), [some (bk names ws), some P, some (plD pl), some (.int n), some (rowD line), some (.int 1), some .non, none], []) else some (.nx, [some (bk names ws), some P, some (plD pl), some (.int n), some (rowD line), some (.int 1), some .non, none], []) := by
        cases hq : rgt names 0 line with
        | false => simp [bk_n, right_eq, hq, hout, ftD]
        | true => simp [bk_n, right_eq, hq]
      have hN : (sIf (qNot (qB (eChain gLeI gLeI (eC (.int 1)) (eV 3) (eFld fldT "names" (eV 0))))) (sRet (eTup (eCons (eV 2) (eCons (eC (.str "name")) (eNil))))) (sSkip)) [some (bk names ws), some P, some (plD pl), some (.int n), some (rowD line), some (.int 1), some .non, none] [] =
          if ¬(1 ≤ n ∧ n ≤ names) then some (.ret (ftD (some (pl, "name"))), [some (bk names ws), some P, some (plD pl), some (.int n), some (rowD line), some (.int 1), some .non, none], []) else some (.nx, [some (bk names ws), some P, some (plD pl), some (.int n), some (rowD line), some (.int 1), some .non, none], []) := by
        by_cases c1 : 1 ≤ n
        · by_cases c2 : n ≤ names
          · simp [bk_n, c1, c2]
          · simp [bk_n, c1, c2, hout, ftD]
        · simp [bk_n, c1, hout, ftD]
      have hA : (sIf (qB (eBin (gIsN true) (eCall (m_answer_in) 2 (eCons (eV 4) (eCons (eV 3) (eNil)))) (eC .non))) (sRet (eTup (eCons (eV 2) (eCons (eC (.str "asked")) (eNil))))) (sSkip)) [some (bk names ws), some P, some (plD pl), some (.int n), some (rowD line), some (.int 1), some .non, none] [] =
          if n ∈ line.map (·.1) then some (.ret (ftD (some (pl, "asked"))), [some (bk names ws), some P, some (plD pl), some (.int n), some (rowD line), some (.int 1), some .non, none], []) else some (.nx, [some (bk names ws), some P, some (plD pl), some (.int n), some (rowD line), some (.int 1), some .non, none], []) := by
        by_cases c : n ∈ line.map (·.1)
        · cases hq : ans n line with
          | none => exact absurd c (ans_none.mp hq)
          | some v =>
            rw [if_pos c]
            simp [answer_eq, hq, ansD, hout, ftD]
        · have hq := ans_none.mpr c
          rw [if_neg c]
          simp [answer_eq, hq, ansD]
      have body1 : Vl ws l → Vl ws r → ∀ (k : Int) (kd : Str) (c : Tr Int), Vl ws c → Sz c → gIx [] P (.int (3 + k)) = some (pD c) → ∀ o6,
          node_fault_b1 (m_node_fault m) [some (bk names ws), some P, some (plD pl), some (.int n), some (rowD line), some (.int k), o6, some (.str kd)] [] =
            if side ws line n (1 - k) c = false then some (.ret (ftD (some (pl, kd))), [some (bk names ws), some P, some (plD pl), some (.int n), some (rowD line), some (.int k), o6, some (.str kd)], []) else some (.nx, [some (bk names ws), some P, some (plD pl), some (.int n), some (rowD line), some (.int k), o6, some (.str kd)], []) := fun _ _ k kd c hv hc hx o6 => by
        have hw1 := within_eq (lineOf ws c) (line ++ [(n, 1 - k)]) (lineOf_sz hw hc)
        unfold node_fault_b1
        cases hq : side ws line n (1 - k) c with
        | false =>
          have hq2 : ((lineOf ws c).all fun a => decide (a ∈ line ++ [(n, 1 - k)])) = false := hq
          rw [hq2] at hw1
          simp [-List.map_append, -eV_e, eV_n, hPn, hx, line_eq hv, row_add [] line n (1 - k) hsl, hw1, hout, ftD, tr_nn]
        | true =>
          have hq2 : ((lineOf ws c).all fun a => decide (a ∈ line ++ [(n, 1 - k)])) = true := hq
          rw [hq2] at hw1
          simp [-List.map_append, -eV_e, eV_n, hPn, hx, line_eq hv, row_add [] line n (1 - k) hsl, hw1, tr_nn]
      have hit1 : ∀ sd : Sl, iSeq (eTup (eCons (eTup (eCons (eC (.int 0)) (eCons (eC (.str "left")) (eNil)))) (eCons (eTup (eCons (eC (.int 1)) (eCons (eC (.str "right")) (eNil)))) (eNil)))) sd [] = some (.ok ([.tup [.int 0, .str "left"], .tup [.int 1, .str "right"]], fun _ => True), []) := fun sd => by simp
      have hL1 : Vl ws l → Vl ws r → ∃ sd, node_fault_l1 (m_node_fault m) [some (bk names ws), some P, some (plD pl), some (.int n), some (rowD line), some (.int 1), some .non, none] [] =
          if side ws line n 1 l = false then some (.ret (ftD (some (pl, "left"))), sd, []) else if side ws line n 0 r = false then some (.ret (ftD (some (pl, "right"))), sd, []) else some (.nx, sd, []) := fun v1 v2 => by
        unfold node_fault_l1
        rw [sFor_of (hit1 _)]
        have b0 := body1 v1 v2 0 "left" l v1 hs1 e3 (some .non)
        have b1 := body1 v1 v2 1 "right" r v2 hs2 e4 (some .non)
        by_cases c0 : side ws line n 1 l = false
        · rw [if_pos (by exact c0)] at b0
          exact ⟨_, by rw [if_pos c0]; exact loop_rt (sd1 := [some (bk names ws), some P, some (plD pl), some (.int n), some (rowD line), some (.int 0), some .non, some (.str "left")]) (μ1 := []) rfl b0⟩
        · rw [if_neg (by exact c0)] at b0
          have g0 := loop_go (chk := fun _ => True) (t := gTupD (gConsD (gD 5) (gConsD (gD 7) (gNilD)))) (d := .tup [.int 0, .str "left"]) (ds := [.tup [.int 1, .str "right"]]) (sd := [some (bk names ws), some P, some (plD pl), some (.int n), some (rowD line), some (.int 1), some .non, none]) (sd1 := [some (bk names ws), some P, some (plD pl), some (.int n), some (rowD line), some (.int 0), some .non, some (.str "left")]) (μ := []) (μ1 := []) rfl b0 trivial
          by_cases c1 : side ws line n 0 r = false
          · rw [if_pos (by exact c1)] at b1
            exact ⟨_, by rw [if_neg c0, if_pos c1]; exact g0.trans (loop_rt (sd1 := [some (bk names ws), some P, some (plD pl), some (.int n), some (rowD line), some (.int 1), some .non, some (.str "right")]) (μ1 := []) rfl b1)⟩
          · rw [if_neg (by exact c1)] at b1
            exact ⟨_, by rw [if_neg c0, if_neg c1]; exact g0.trans (loop_go (sd1 := [some (bk names ws), some P, some (plD pl), some (.int n), some (rowD line), some (.int 1), some .non, some (.str "right")]) (μ1 := []) rfl b1 trivial)⟩
      rw [runF_def]
      simp only [List.map_cons, List.map_nil, List.length_cons, List.length_nil, List.cons_append, List.nil_append, Nat.zero_add, Nat.reduceAdd, Nat.reduceSub, List.reduceReplicate]
      rw [sSeq_of hS1, sSeq_of hS2]
      unfold nf
      cases hl : nf names ws l (pl ++ [0]) with
      | some x => rw [hl] at hL2; rw [sSeq_ret hL2]
      | none =>
        rw [hl] at hL2
        cases hr : nf names ws r (pl ++ [1]) with
        | some x => rw [hr] at hL2; rw [sSeq_ret hL2]
        | none =>
          rw [hr] at hL2
          obtain ⟨sd, hL1⟩ := hL1 (nf_vl hl) (nf_vl hr)
          rw [sSeq_of hL2]
          dsimp only
          by_cases c1 : rgt names 0 line = false
          · rw [if_pos c1] at hR ⊢
            rw [sSeq_ret hR]
          rw [if_neg c1] at hR ⊢
          rw [sSeq_of hR]
          by_cases c2 : ¬(1 ≤ n ∧ n ≤ names)
          · rw [if_pos c2] at hN ⊢
            rw [sSeq_ret hN]
          rw [if_neg c2] at hN ⊢
          rw [sSeq_of hN]
          by_cases c3 : n ∈ line.map (·.1)
          · rw [if_pos c3] at hA ⊢
            rw [sSeq_ret hA]
          rw [if_neg c3] at hA ⊢
          rw [sSeq_of hA]
          by_cases c4 : side ws line n 1 l = false
          · rw [if_pos c4] at hL1 ⊢
            rw [sSeq_ret hL1]
          rw [if_neg c4] at hL1 ⊢
          by_cases c5 : side ws line n 0 r = false
          · rw [if_pos c5] at hL1 ⊢
            rw [sSeq_ret hL1]
          rw [if_neg c5] at hL1 ⊢
          rw [sSeq_of hL1]
          simp [ftD]
end LK
set_option Elab.async false
set_option linter.all false
set_option maxRecDepth 100000
set_option maxHeartbeats 8000000
namespace LK
open PySem PySem.Spec PyProof.Rows L2 DL
theorem law_fault_eq (names : Int) (ws : List Rw) (hw : ∀ r ∈ ws, r.length ≤ 1000) : ∀ (m : Nat) (p : Tr Int) (pl : List Int), dp p < m → Sz p → pl.length + dp p ≤ 1000 → m__law_node_fault m [.int names, .lst (ws.map rowD), pD p, plD pl] = some (.ok (ftD (nf names ws p pl))) := by
  intro m
  induction m with
  | zero => intro p pl h; omega
  | succ m ih =>
    intro p pl hd hs hp
    have hout : ∀ (μ : Mem) (k : Str), outD μ (.tup [plD pl, .str k]) = some (.tup [plD pl, .str k]) := fun μ k => ft_out μ (some (pl, k))
    unfold m__law_node_fault b__law_node_fault
    cases p with
    | w i =>
      obtain ⟨h0, h1⟩ := w_ix [] D.int i rfl
      simp only [trD] at h0 h1
      unfold nf
      by_cases c1 : 0 ≤ i
      · by_cases c2 : i < ws.length
        · simp [trD, h0, h1, str_eqT, c1, c2, ftD]
        · simp [trD, h0, h1, str_eqT, c1, c2, ftD, hout]
      · simp [trD, h0, h1, str_eqT, c1, ftD, hout]
    | f n line l r =>
      simp only [dp] at hd hp
      obtain ⟨hsl, hs1, hs2⟩ := hs
      have ihl := ih l (pl ++ [0]) (by omega) hs1 (by simp; omega)
      have ihr := ih r (pl ++ [1]) (by omega) hs2 (by simp; omega)
      have hix := fun μ => f_ix μ D.int n line l r
      generalize hP : pD (.f n line l r) = P at hix
      rw [show trD D.int (.f n line l r) = P from hP] at hix
      have h0 := fun μ => (hix μ).1
      have h1 := fun μ => (hix μ).2.1
      have h2 := fun μ => (hix μ).2.2.1
      have h3 := fun μ => (hix μ).2.2.2.1
      have h4 := fun μ => (hix μ).2.2.2.2
      have hPn : notNew P = true := by rw [← hP]; rfl
      have hra : ∀ μ, argD μ P = some P := fun μ => by rw [← hP]; exact arg_pD μ _
      generalize hW : D.lst (ws.map rowD) = Wd
      have hWn : notNew Wd = true := by rw [← hW]; rfl
      have hWa : ∀ μ, argD μ Wd = some Wd := fun μ => by rw [← hW]; exact arg_ws μ ws
      rw [hW] at ihl ihr
      have body2 : ∀ (k : Int) (c : Tr Int) (o5 o6 o7 : Option D), gIx [] P (.int (3 + k)) = some (pD c) → m__law_node_fault m [.int names, Wd, pD c, plD (pl ++ [k])] = some (.ok (ftD (nf names ws c (pl ++ [k])))) →
          _law_node_fault_b2 (m__law_node_fault m) [some (.int names), some Wd, some P, some (plD pl), some (.int k), o5, o6, o7] [] =
            match nf names ws c (pl ++ [k]) with
            | none => some (.nx, [some (.int names), some Wd, some P, some (plD pl), some (.int k), some .non, o6, o7], [])
            | some x => some (.ret (ftD (some x)), [some (.int names), some Wd, some P, some (plD pl), some (.int k), some (ftD (some x)), o6, o7], []) := fun k c o5 o6 o7 hx hm => by
        unfold _law_node_fault_b2
        cases hnf : nf names ws c (pl ++ [k]) with
        | none =>
          rw [hnf] at hm
          simp [-List.map_append, -eV_e, -eOwn_e, -gD_e, eV_n, eOwn_n, gD_n, hPn, hWn, hWa, hx, pl_add [] pl k (by omega), hm, ft_nn, tr_nn, isN_ft]
          rfl
        | some x =>
          rw [hnf] at hm
          simp [-List.map_append, -eV_e, -eOwn_e, -gD_e, eV_n, eOwn_n, gD_n, hPn, hWn, hWa, hx, pl_add [] pl k (by omega), hm, ft_nn, tr_nn, isN_ft, ft_out]
      have hS1 : (sIf (qB (eBin (gEqD false) (eBin gIx (eV 2) (eC (.int 0))) (eC (.str "wish")))) (sRet (eIf (qB (eChain gLeI gLtI (eC (.int 0)) (eBin gIx (eV 2) (eC (.int 1))) (eCB gLen (eCons (eV 1) (eNil))))) (eC .non) (eTup (eCons (eV 3) (eCons (eC (.str "wish")) (eNil)))))) (sSkip)) [some (.int names), some Wd, some P, some (plD pl), none, none, none, none] [] = some (.nx, [some (.int names), some Wd, some P, some (plD pl), none, none, none, none], []) := by
        simp [-eV_e, eV_n, hPn, h0, str_eqF]
      have hit : ∀ (sd : Sl) (μ : Mem), iR1 (eCons (eC (.int 2)) (eNil)) sd μ = some (.ok ([.int 0, .int 1], fun _ => True), μ) := fun sd μ => by
        rw [iR1_of (n := 2) (by simp) (by decide)]
        rfl
      have e3 : ∀ μ, gIx μ P (.int (3 + 0)) = some (pD l) := h3
      have e4 : ∀ μ, gIx μ P (.int (3 + 1)) = some (pD r) := h4
      have hL2 : _law_node_fault_l2 (m__law_node_fault m) [some (.int names), some Wd, some P, some (plD pl), none, none, none, none] [] =
          match nf names ws l (pl ++ [0]) with
          | some x => some (.ret (ftD (some x)), [some (.int names), some Wd, some P, some (plD pl), some (.int 0), some (ftD (some x)), none, none], [])
          | none => match nf names ws r (pl ++ [1]) with
            | some x => some (.ret (ftD (some x)), [some (.int names), some Wd, some P, some (plD pl), some (.int 1), some (ftD (some x)), none, none], [])
            | none => some (.nx, [some (.int names), some Wd, some P, some (plD pl), some (.int 1), some .non, none, none], []) := by
        unfold _law_node_fault_l2
        rw [sFor_of (hit _ _)]
        have b0 := body2 0 l none none none (e3 _) ihl
        cases hl : nf names ws l (pl ++ [0]) with
        | some x =>
          rw [hl] at b0
          rw [loop_rt (sd1 := [some (.int names), some Wd, some P, some (plD pl), some (.int 0), none, none, none]) (μ1 := []) rfl b0]
        | none =>
          rw [hl] at b0
          rw [loop_go (sd1 := [some (.int names), some Wd, some P, some (plD pl), some (.int 0), none, none, none]) (μ1 := []) rfl b0 trivial]
          have b1 := body2 1 r (some .non) none none (e4 _) ihr
          cases hr : nf names ws r (pl ++ [1]) with
          | some x =>
            rw [hr] at b1
            rw [loop_rt (sd1 := [some (.int names), some Wd, some P, some (plD pl), some (.int 1), some .non, none, none]) (μ1 := []) rfl b1]
          | none =>
            rw [hr] at b1
            rw [loop_go (sd1 := [some (.int names), some Wd, some P, some (plD pl), some (.int 1), some .non, none, none]) (μ1 := []) rfl b1 trivial]
            rfl
      have hR : (sIf (qNot (qTru (eCall (m__law_right_row) 2 (eCons (eV 0) (eCons (eBin gIx (eV 2) (eC (.int 2))) (eNil)))))) (sRet (eTup (eCons (eV 3) (eCons (eC (.str "line")) (eNil))))) (sSkip)) [some (.int names), some Wd, some P, some (plD pl), some (.int 1), some .non, none, none] [] =
          if rgt names 0 line = false then some (.ret (ftD (some (pl, "line"))), [some (.int names), some Wd, some P, some (plD pl), some (.int 1), some .non, none, none], []) else some (.nx, [some (.int names), some Wd, some P, some (plD pl), some (.int 1), some .non, none, none], []) := by
        cases hq : rgt names 0 line with
        | false => simp [-eV_e, eV_n, hPn, h2, lawRight_eq, hq, hout, ftD]
        | true => simp [-eV_e, eV_n, hPn, h2, lawRight_eq, hq]
      have hN : (sIf (qNot (qB (eChain gLeI gLeI (eC (.int 1)) (eBin gIx (eV 2) (eC (.int 1))) (eV 0)))) (sRet (eTup (eCons (eV 3) (eCons (eC (.str "name")) (eNil))))) (sSkip)) [some (.int names), some Wd, some P, some (plD pl), some (.int 1), some .non, none, none] [] =
          if ¬(1 ≤ n ∧ n ≤ names) then some (.ret (ftD (some (pl, "name"))), [some (.int names), some Wd, some P, some (plD pl), some (.int 1), some .non, none, none], []) else some (.nx, [some (.int names), some Wd, some P, some (plD pl), some (.int 1), some .non, none, none], []) := by
        by_cases c1 : 1 ≤ n
        · by_cases c2 : n ≤ names
          · simp [-eV_e, eV_n, hPn, h1, c1, c2]
          · simp [-eV_e, eV_n, hPn, h1, c1, c2, hout, ftD]
        · simp [-eV_e, eV_n, hPn, h1, c1, hout, ftD]
      have hc3 : _law_node_fault_c3 (m__law_node_fault m) [some (.int names), some Wd, some P, some (plD pl), some (.int 1), some .non, none, none] [] = some (.ok (.new ((line.map (·.1)).map D.int)), []) := by
        unfold _law_node_fault_c3
        rw [List.map_map]
        refine eLc_all (chk := fun _ => True) line wd (fun a => D.int a.1) (by simp [-eV_e, eV_n, hPn, h2]) rfl (by omega) trivial fun a ha => ⟨_, rfl, ?_, rfl⟩
        simp [wipeD]
      have hA : (sIf (qB (eBin (gInA false) (eBin gIx (eV 2) (eC (.int 1))) ((_law_node_fault_c3 (m__law_node_fault m))))) (sRet (eTup (eCons (eV 3) (eCons (eC (.str "asked")) (eNil))))) (sSkip)) [some (.int names), some Wd, some P, some (plD pl), some (.int 1), some .non, none, none] [] =
          if n ∈ line.map (·.1) then some (.ret (ftD (some (pl, "asked"))), [some (.int names), some Wd, some P, some (plD pl), some (.int 1), some .non, none, none], []) else some (.nx, [some (.int names), some Wd, some P, some (plD pl), some (.int 1), some .non, none, none], []) := by
        have hin := in_ints [] false n (line.map (·.1))
        by_cases c : n ∈ line.map (·.1)
        · rw [if_pos c]
          rw [decide_eq_true c] at hin
          simp [-List.map_map, -List.mem_map, -eV_e, eV_n, hPn, h1, hc3, hin, hout, ftD]
        · rw [if_neg c]
          rw [decide_eq_false c] at hin
          simp [-List.map_map, -List.mem_map, -eV_e, eV_n, hPn, h1, hc3, hin]
      have body1 : ∀ (k : Int) (kd : Str) (c : Tr Int), Vl ws c → Sz c → (∀ μ, gIx μ P (.int (3 + k)) = some (pD c)) → (∀ μ, gIx μ (.new [.str "left", .str "right"]) (.int k) = some (.str kd)) → ∀ (μ : Mem) (o6 : Option D), ∃ sd,
          _law_node_fault_b1 (m__law_node_fault m) [some (.int names), some Wd, some P, some (plD pl), some (.int k), some .non, o6, none] μ =
            if side ws line n (1 - k) c = false then some (.ret (ftD (some (pl, kd))), sd, μ ++ [.lst ((line ++ [(n, 1 - k)]).map wd)]) else some (.nx, [some (.int names), some Wd, some P, some (plD pl), some (.int k), some .non, some (.ref μ.length), none], μ ++ [.lst ((line ++ [(n, 1 - k)]).map wd)]) := fun k kd c hv hc hx hkd μ o6 => by
        have hc2 : _law_node_fault_c2 (m__law_node_fault m) [some (.int names), some Wd, some P, some (plD pl), some (.int k), some .non, o6, none] μ = some (.ok (.new (line.map wd)), μ) := by
          unfold _law_node_fault_c2
          refine eLc_all (chk := fun _ => True) line wd wd (by simp [-eV_e, eV_n, hPn, h2]) rfl (by omega) trivial fun a ha => ⟨_, rfl, ?_, rfl⟩
          simp [wipeD]
        have hadd : gAdd μ (.new (line.map wd)) (.new [.tup [.int n, .int (1 - k)]]) = some (.new ((line ++ [(n, 1 - k)]).map wd)) := by
          rw [add_nn (by rw [List.length_map]; simp; omega)]
          simp
        have hs1 : (sAsg (eOwn (eBin gAdd ((_law_node_fault_c2 (m__law_node_fault m))) (eLst (eCons (eTup (eCons (eBin gIx (eV 2) (eC (.int 1))) (eCons (eBin gSubI (eC (.int 1)) (eV 4)) (eNil)))) (eNil))))) (gD 6)) [some (.int names), some Wd, some P, some (plD pl), some (.int k), some .non, o6, none] μ = some (.nx, [some (.int names), some Wd, some P, some (plD pl), some (.int k), some .non, some (.ref μ.length), none], μ ++ [.lst ((line ++ [(n, 1 - k)]).map wd)]) := by
          simp [-List.map_append, -eV_e, eV_n, -eOwn_e, eOwn_n, hPn, h1, hc2, hadd]
        have hall : (μ ++ [.lst ((line ++ [(n, 1 - k)]).map wd)])[μ.length]? = some (.lst ((line ++ [(n, 1 - k)]).map wd)) := by simp
        generalize hμ : μ ++ [.lst ((line ++ [(n, 1 - k)]).map wd)] = μ2 at hs1 hall
        have hcall : eCall (m__law_line) 2 (eCons (eV 1) (eCons (eBin gIx (eV 2) (eBin gAdd (eC (.int 3)) (eV 4))) (eNil))) [some (.int names), some Wd, some P, some (plD pl), some (.int k), some .non, some (.ref μ.length), none] μ2 = some (.ok (rowD (lineOf ws c)), μ2) := by
          have hl := lawLine_eq hv
          rw [hW] at hl
          simp [-eV_e, eV_n, hPn, hWn, hWa, hx, hl]
        have hc1 : _law_node_fault_c1 (m__law_node_fault m) [some (.int names), some Wd, some P, some (plD pl), some (.int k), some .non, some (.ref μ.length), none] μ2 = some (.ok (.new (((lineOf ws c).filter fun a => !decide (a ∈ line ++ [(n, 1 - k)])).map wd)), μ2) := by
          unfold _law_node_fault_c1
          refine eLc_eq (chk := fun _ => True) (lineOf ws c) wd (fun a => !decide (a ∈ line ++ [(n, 1 - k)])) wd ?_ rfl (by have := lineOf_sz hw hc; omega) trivial fun a ha => ⟨_, rfl, ?_, fun _ => ⟨?_, rfl⟩⟩
          · rw [iSeq_e, hcall]
            rfl
          · have hin := in_lst (μ := μ2) (y := .ref μ.length) true a (line ++ [(n, 1 - k)]) (toPm_ref _ hall) (fun z q => by cases q)
            have hin : gInA true μ2 (.tup [.int a.1, .int a.2]) (.ref μ.length) = some (.bl (!decide (a ∈ line ++ [(n, 1 - k)]))) := hin
            simp [-List.mem_append, wipeD, hin]
          · simp [wipeD]
        have hlen : (lineOf ws c).filter (fun a => !decide (a ∈ line ++ [(n, 1 - k)])) = [] ↔ side ws line n (1 - k) c = true := by
          unfold side
          rw [List.filter_eq_nil_iff, List.all_eq_true]
          constructor
          · intro h a ha
            have := h a ha
            revert this
            generalize decide (a ∈ line ++ [(n, 1 - k)]) = b
            cases b <;> simp
          · intro h a ha
            have := h a ha
            revert this
            generalize decide (a ∈ line ++ [(n, 1 - k)]) = b
            cases b <;> simp
        unfold _law_node_fault_b1
        rw [sSeq_of hs1]
        generalize hfl : (lineOf ws c).filter (fun a => !decide (a ∈ line ++ [(n, 1 - k)])) = fl at hc1 hlen
        cases hq : side ws line n (1 - k) c with
        | false =>
          have hf : 0 < fl.length := by
            rcases Nat.eq_zero_or_pos fl.length with z | z
            · rw [hlen.mp (List.eq_nil_of_length_eq_zero z)] at hq
              cases hq
            · exact z
          have hf2 : decide (0 < fl.length) = true := decide_eq_true hf
          exact ⟨_, by
            rw [if_pos rfl]
            simp [hc1, hf2, hkd, hout, ftD]
            rfl⟩
        | true =>
          have hf := hlen.mpr hq
          subst hf
          exact ⟨[], by simp [hc1]⟩
      have hL1 : Vl ws l → Vl ws r → ∃ sd μ, _law_node_fault_l1 (m__law_node_fault m) [some (.int names), some Wd, some P, some (plD pl), some (.int 1), some .non, none, none] [] =
          if side ws line n 1 l = false then some (.ret (ftD (some (pl, "left"))), sd, μ) else if side ws line n 0 r = false then some (.ret (ftD (some (pl, "right"))), sd, μ) else some (.nx, sd, μ) := fun v1 v2 => by
        unfold _law_node_fault_l1
        rw [sFor_of (hit _ _)]
        obtain ⟨sd0, b0⟩ := body1 0 "left" l v1 hs1 e3 (fun μ => by rfl) [] none
        obtain ⟨sd1, b1⟩ := body1 1 "right" r v2 hs2 e4 (fun μ => by rfl) ([] ++ [.lst ((line ++ [(n, 1 - 0)]).map wd)]) (some (.ref 0))
        by_cases c0 : side ws line n 1 l = false
        · rw [if_pos (by exact c0)] at b0
          exact ⟨_, _, by rw [if_pos c0]; exact loop_rt (sd1 := [some (.int names), some Wd, some P, some (plD pl), some (.int 0), some .non, none, none]) (μ1 := []) rfl b0⟩
        · rw [if_neg (by exact c0)] at b0
          have g0 := loop_go (chk := fun _ => True) (t := gD 4) (d := .int 0) (ds := [.int 1]) (sd := [some (.int names), some Wd, some P, some (plD pl), some (.int 1), some .non, none, none]) (sd1 := [some (.int names), some Wd, some P, some (plD pl), some (.int 0), some .non, none, none]) (μ := []) (μ1 := []) rfl b0 trivial
          by_cases c1 : side ws line n 0 r = false
          · rw [if_pos (by exact c1)] at b1
            exact ⟨_, _, by rw [if_neg c0, if_pos c1]; exact g0.trans (loop_rt (sd1 := [some (.int names), some Wd, some P, some (plD pl), some (.int 1), some .non, some (.ref 0), none]) rfl b1)⟩
          · rw [if_neg (by exact c1)] at b1
            exact ⟨_, _, by rw [if_neg c0, if_neg c1]; exact g0.trans (loop_go (sd1 := [some (.int names), some Wd, some P, some (plD pl), some (.int 1), some .non, some (.ref 0), none]) rfl b1 trivial)⟩
      rw [runF_def]
      simp only [List.map_cons, List.map_nil, List.length_cons, List.length_nil, List.cons_append, List.nil_append, Nat.zero_add, Nat.reduceAdd, Nat.reduceSub, List.reduceReplicate]
      rw [sSeq_of hS1]
      unfold nf
      cases hl : nf names ws l (pl ++ [0]) with
      | some x => rw [hl] at hL2; rw [sSeq_ret hL2]
      | none =>
        rw [hl] at hL2
        cases hr : nf names ws r (pl ++ [1]) with
        | some x => rw [hr] at hL2; rw [sSeq_ret hL2]
        | none =>
          rw [hr] at hL2
          obtain ⟨sd, μ, hL1⟩ := hL1 (nf_vl hl) (nf_vl hr)
          rw [sSeq_of hL2]
          dsimp only
          by_cases c1 : rgt names 0 line = false
          · rw [if_pos c1] at hR ⊢
            rw [sSeq_ret hR]
          rw [if_neg c1] at hR ⊢
          rw [sSeq_of hR]
          by_cases c2 : ¬(1 ≤ n ∧ n ≤ names)
          · rw [if_pos c2] at hN ⊢
            rw [sSeq_ret hN]
          rw [if_neg c2] at hN ⊢
          rw [sSeq_of hN]
          by_cases c3 : n ∈ line.map (·.1)
          · rw [if_pos c3] at hA ⊢
            rw [sSeq_ret hA]
          rw [if_neg c3] at hA ⊢
          rw [sSeq_of hA]
          by_cases c4 : side ws line n 1 l = false
          · rw [if_pos c4] at hL1 ⊢
            rw [sSeq_ret hL1]
          rw [if_neg c4] at hL1 ⊢
          by_cases c5 : side ws line n 0 r = false
          · rw [if_pos c5] at hL1 ⊢
            rw [sSeq_ret hL1]
          rw [if_neg c5] at hL1 ⊢
          rw [sSeq_of hL1]
          simp [ftD]
end LK
set_option Elab.async false
set_option linter.all false
set_option maxRecDepth 100000
set_option maxHeartbeats 8000000
namespace LK
open PySem PySem.Spec PyProof.Rows L2 DL
/-! ### leaves -/
def lvs {α : Type} : Tr α → List α
  | .w a => [a]
  | .f _ _ l r => lvs l ++ lvs r
theorem lvs_len {α : Type} : ∀ t : Tr α, (lvs t).length = cnt t
  | .w _ => rfl
  | .f _ _ l r => by show (lvs l ++ lvs r).length = cnt l + cnt r; rw [List.length_append, lvs_len l, lvs_len r]
theorem cnt_pos {α : Type} : ∀ t : Tr α, 1 ≤ cnt t
  | .w _ => Nat.le_refl _
  | .f _ _ l r => by show 1 ≤ cnt l + cnt r; have := cnt_pos l; omega
theorem leaves_eq : ∀ (m : Nat) (p : Tr Int), dp p < m → m_line_tree_leaves m [pD p] = some (.ok (.int (cnt p))) := by
  intro m
  induction m with
  | zero => intro p h; omega
  | succ m ih =>
    intro p hd
    unfold m_line_tree_leaves b_line_tree_leaves
    cases p with
    | w i =>
      obtain ⟨h0, h1⟩ := w_ix [] D.int i rfl
      simp only [trD] at h0 h1
      simp [trD, h0, str_eqT, cnt]
    | f n line l r =>
      simp only [dp] at hd
      have ihl := ih l (by omega)
      have ihr := ih r (by omega)
      obtain ⟨h0, h1, h2, h3, h4⟩ := f_ix [] D.int n line l r
      generalize hP : pD (.f n line l r) = P at h0 h1 h2 h3 h4
      rw [show trD D.int (.f n line l r) = P from hP] at h0 h1 h2 h3 h4
      have hPn : notNew P = true := by rw [← hP]; rfl
      simp [-eV_e, eV_n, hPn, h0, str_eqF, h3, h4, ihl, ihr, cnt]
theorem leafRows_eq {α : Type} {e : α → D} (he : ∀ a, okA (e a) = true) (hp : ∀ a, DL.plain (e a) = true) (hn : ∀ a, notNew (e a) = true) : ∀ (m : Nat) (p : Tr α), dp p < m → cnt p ≤ 50000 → m__law_leaf_rows m [trD e p] = some (.ok (.new ((lvs p).map e))) := by
  intro m
  induction m with
  | zero => intro p h; omega
  | succ m ih =>
    intro p hd hc
    have hout : ∀ (μ : Mem) (l : List α), outD μ (.new (l.map e)) = some (.new (l.map e)) := fun μ l => if_pos (plainL_map hp l)
    have hag : ∀ μ (t : Tr α), argD μ (trD e t) = some (trD e t) := fun μ t => arg_of (tr_ok he t)
    unfold m__law_leaf_rows b__law_leaf_rows
    cases p with
    | w i =>
      obtain ⟨h0, h1⟩ := w_ix [] e i (hn i)
      have ho := hout [] [i]
      simp only [List.map_cons, List.map_nil] at ho
      generalize hP : trD e (.w i) = P at h0 h1
      have hPn : notNew P = true := by rw [← hP]; rfl
      simp [-eV_e, eV_n, hPn, h0, h1, str_eqT, lvs, ho]
    | f n line l r =>
      simp only [dp] at hd
      simp only [cnt] at hc
      have ihl := ih l (by omega) (by omega)
      have ihr := ih r (by omega) (by omega)
      obtain ⟨h0, h1, h2, h3, h4⟩ := f_ix [] e n line l r
      have hadd : gAdd [] (.new ((lvs l).map e)) (.new ((lvs r).map e)) = some (.new ((lvs l ++ lvs r).map e)) := by
        rw [add_nn (by rw [List.length_map, List.length_map, lvs_len, lvs_len]; omega), List.map_append]
      have ho := hout [] (lvs l ++ lvs r)
      generalize hP : trD e (.f n line l r) = P at h0 h1 h2 h3 h4
      have hPn : notNew P = true := by rw [← hP]; rfl
      simp [-List.map_append, -eV_e, eV_n, hPn, h0, str_eqF, h3, h4, hag, ihl, ihr, hadd, ho, lvs]
/-! ### the first fault of the whole -/
def ltf (names : Int) (ws : List Rw) (p : Tr Int) : Fa2 := match nf names ws p [] with
  | some x => some x
  | none => if lineOf ws p = [] then none else some ([], "end")
def Sm (p : Tr Int) : Prop := dp p < 110 ∧ Sz p ∧ cnt p ≤ 50000
theorem row_eq0 (μ : Mem) (n : Bool) (r : Rw) : gEqD n μ (rowD r) (.tup []) = some (.bl (if n then !decide (r = []) else decide (r = []))) := eq_en (α := Rw) n r []
theorem ltf_eq {names : Int} {ws : List Rw} (hw : ∀ r ∈ ws, r.length ≤ 1000) {p : Tr Int} (h : Sm p) : m_line_tree_fault [bk names ws, pD p] = some (.ok (ftD (ltf names ws p))) := by
  have h1 := node_fault_eq names ws hw 110 p [] h.1 h.2.1 (by have := h.1; simp; omega)
  have h1 : m_node_fault 110 [bk names ws, pD p, .tup []] = some (.ok (ftD (nf names ws p []))) := h1
  have hPn := tr_nn (e := D.int) p
  have hout : outD [] (.tup [.tup [], .str "end"]) = some (.tup [.tup [], .str "end"]) := rfl
  have harg : argD [] (.tup []) = some (.tup []) := rfl
  unfold m_line_tree_fault b_line_tree_fault ltf
  cases hq : nf names ws p [] with
  | some x =>
    rw [hq] at h1
    simp [-eV_e, -eOwn_e, -gD_e, eV_n, eOwn_n, gD_n, hPn, harg, h1, ft_nn, isN_ft, ft_out]
  | none =>
    rw [hq] at h1
    have hl := line_eq (names := names) (nf_vl hq)
    have h1 : m_node_fault 110 [bk names ws, pD p, .tup []] = some (.ok .non) := h1
    by_cases c : lineOf ws p = []
    · have e0 := row_eq0 [] true (lineOf ws p)
      rw [decide_eq_true c] at e0
      rw [if_pos c]
      simp [-eV_e, -eOwn_e, -gD_e, eV_n, eOwn_n, gD_n, hPn, harg, h1, hl, e0, ftD]
    · have e0 := row_eq0 [] true (lineOf ws p)
      rw [decide_eq_false c] at e0
      rw [if_neg c]
      simp [-eV_e, -eOwn_e, -gD_e, eV_n, eOwn_n, gD_n, hPn, harg, h1, hl, e0, ftD, hout]
theorem due_eq {names : Int} {ws : List Rw} (hw : ∀ r ∈ ws, r.length ≤ 1000) {p : Tr Int} (h : Sm p) : m__law_due [.int names, .lst (ws.map rowD), pD p] = some (.ok (ftD (ltf names ws p))) := by
  have h1 := law_fault_eq names ws hw 110 p [] h.1 h.2.1 (by have := h.1; simp; omega)
  have h1 : m__law_node_fault 110 [.int names, .lst (ws.map rowD), pD p, .tup []] = some (.ok (ftD (nf names ws p []))) := h1
  have hPn := tr_nn (e := D.int) p
  have hout : outD [] (.tup [.tup [], .str "end"]) = some (.tup [.tup [], .str "end"]) := rfl
  have harg : argD [] (.tup []) = some (.tup []) := rfl
  unfold m__law_due b__law_due ltf
  cases hq : nf names ws p [] with
  | some x =>
    rw [hq] at h1
    simp [-eV_e, -eOwn_e, -gD_e, eV_n, eOwn_n, gD_n, hPn, harg, h1, ft_nn, isN_ft, ft_out]
  | none =>
    rw [hq] at h1
    have hl := lawLine_eq (nf_vl hq)
    have h1 : m__law_node_fault 110 [.int names, .lst (ws.map rowD), pD p, .tup []] = some (.ok .non) := h1
    by_cases c : lineOf ws p = []
    · rw [c] at hl
      rw [if_pos c]
      simp [-eV_e, -eOwn_e, -gD_e, eV_n, eOwn_n, gD_n, hPn, harg, h1, hl, ftD]
    · rw [if_neg c]
      have hp : decide (0 < (lineOf ws p).length) = true := decide_eq_true (List.length_pos_iff.mpr c)
      simp [-List.length_pos_iff, -eV_e, -eOwn_e, -gD_e, eV_n, eOwn_n, gD_n, hPn, harg, h1, hl, ftD, hout, hp]
/-! ### the walk -/
theorem part_len {n : Int} : ∀ {st : Rw}, n ∉ st.map (·.1) → (st.filter fun a => decide (a.1 < n)).length + (st.filter fun a => decide (a.1 > n)).length = st.length
  | [], _ => rfl
  | a :: st, h => by
    have h1 : n ≠ a.1 := fun q => h (by simp [q])
    have h2 := part_len (n := n) (st := st) fun q => h (List.mem_cons_of_mem _ q)
    by_cases c : a.1 < n
    · have c2 : ¬ a.1 > n := by omega
      simp [c, c2] at h2 ⊢
      omega
    · have c2 : a.1 > n := by omega
      simp [c, c2] at h2 ⊢
      omega
def put1 (st : Rw) (n v : Int) : Rw := (st.filter fun a => decide (a.1 < n)) ++ [(n, v)] ++ st.filter fun a => decide (a.1 > n)
theorem answer_put {st : Rw} {n v : Int} (h : n ∉ st.map (·.1)) (hl : st.length ≤ 1000) : m_with_answer [rowD st, .int n, .int v] = some (.ok (rowD (put1 st n v))) := by
  have l1 : (st.filter fun a => decide (a.1 < n)).length ≤ st.length := List.length_filter_le _ _
  have l2 : (st.filter fun a => decide (a.1 > n)).length ≤ st.length := List.length_filter_le _ _
  have c2 : with_answer_c2 [some (rowD st), some (.int n), some (.int v), none, none, none] [] = some (.ok (.new ((st.filter fun a => decide (a.1 < n)).map wd)), []) := by
    unfold with_answer_c2
    refine eLc_eq (chk := fun _ => True) st wd (fun a => decide (a.1 < n)) wd (by simp) rfl (by omega) trivial fun a ha => ⟨_, rfl, ?_, fun _ => ⟨?_, rfl⟩⟩
    · simp [wipeD]
    · simp [wipeD]
  have c1 : with_answer_c1 [some (rowD st), some (.int n), some (.int v), some (.ref 0), none, none] [.lst ((st.filter fun a => decide (a.1 < n)).map wd)] = some (.ok (.new ((st.filter fun a => decide (a.1 > n)).map wd)), [.lst ((st.filter fun a => decide (a.1 < n)).map wd)]) := by
    unfold with_answer_c1
    refine eLc_eq (chk := fun _ => True) st wd (fun a => decide (a.1 > n)) wd (by simp) rfl (by omega) trivial fun a ha => ⟨_, rfl, ?_, fun _ => ⟨?_, rfl⟩⟩
    · simp [wipeD]
    · simp [wipeD]
  have hlen := part_len h
  unfold m_with_answer b_with_answer put1
  generalize (st.filter fun a => decide (a.1 < n)) = lo at *
  generalize (st.filter fun a => decide (a.1 > n)) = hi at *
  have hlt : ¬ ((lo.length : Int) + (hi.length : Int) < (st.length : Int)) := by omega
  have g1 : ∀ μ : Mem, μ[0]? = some (.lst (lo.map wd)) → gLen μ [.ref 0] = some (.int lo.length) := fun μ q => by
    rw [len_any (ds := lo.map wd) (by simp [q]), List.length_map]
  have g2 : ∀ μ : Mem, μ[1]? = some (.lst (hi.map wd)) → gLen μ [.ref 1] = some (.int hi.length) := fun μ q => by
    rw [len_any (ds := hi.map wd) (by simp [q]), List.length_map]
  have t1 : ∀ μ : Mem, μ[0]? = some (.lst (lo.map wd)) → gTuple μ [.ref 0] = some (rowD lo) := fun μ q => tup_any (by simp [q])
  have t2 : ∀ μ : Mem, μ[1]? = some (.lst (hi.map wd)) → gTuple μ [.ref 1] = some (rowD hi) := fun μ q => tup_any (by simp [q])
  have a1 : ∀ μ : Mem, gAdd μ (rowD lo) (.tup [.tup [.int n, .int v]]) = some (rowD (lo ++ [(n, v)])) := fun μ => row_add μ lo n v (by omega)
  have a2 : ∀ μ : Mem, gAdd μ (rowD (lo ++ [(n, v)])) (rowD hi) = some (rowD (lo ++ [(n, v)] ++ hi)) := fun μ => by
    rw [add_tup (by rw [List.length_map, List.length_map]; simp; omega), ← List.map_append]
  have ho := out_tup (μ := [.lst (lo.map wd), .lst (hi.map wd)]) (pl_wd (lo ++ [(n, v)] ++ hi))
  simp [-List.map_append, -List.append_assoc, c2, c1, g1, g2, hlt, t1, t2, a1, a2, ho]
theorem walked_eq : ∀ (m : Nat) (p : Tr Int) (st : Rw), dp p < m → st.length + dp p ≤ 900 → (∀ a ∈ st, a.2 = 0 ∨ a.2 = 1) → ∃ ds, m_walked_tree m [pD p, rowD st] = some (.ok (.tup ds)) ∧ plainL ds = true := by
  intro m
  induction m with
  | zero => intro p st h; omega
  | succ m ih =>
    intro p st hd hl hst
    unfold m_walked_tree b_walked_tree
    cases p with
    | w i =>
      obtain ⟨h0, h1⟩ := w_ix [] D.int i rfl
      simp only [trD] at h0 h1
      have ho : outD [] (.tup [.str "leaf", .int i]) = some (.tup [.str "leaf", .int i]) := rfl
      exact ⟨[.str "leaf", .int i], by simp [trD, h0, h1, str_eqT, ho], rfl⟩
    | f n line l r =>
      simp only [dp] at hd hl
      have hix := fun μ => f_ix μ D.int n line l r
      generalize hP : pD (.f n line l r) = P at hix
      rw [show trD D.int (.f n line l r) = P from hP] at hix
      have h0 := fun μ => (hix μ).1
      have h1 := fun μ => (hix μ).2.1
      have h3 := fun μ => (hix μ).2.2.2.1
      have h4 := fun μ => (hix μ).2.2.2.2
      have hPn : notNew P = true := by rw [← hP]; rfl
      cases hq : ans n st with
      | some v =>
        have hv := hst _ (ans_mem hq)
        have hv : v = 0 ∨ v = 1 := hv
        have hx : ∃ c, (∀ μ, gIx μ P (.int (3 + v)) = some (pD c)) ∧ dp c ≤ max (dp l) (dp r) := by
          rcases hv with rfl | rfl
          · exact ⟨l, h3, by omega⟩
          · exact ⟨r, h4, by omega⟩
        obtain ⟨c, hx, hdc⟩ := hx
        obtain ⟨ds, e1, e2⟩ := ih c st (by omega) (by omega) hst
        have ho := out_tup (μ := []) e2
        exact ⟨ds, by simp [-eV_e, eV_n, hPn, h0, h1, str_eqF, answer_eq, hq, ansD, hx, tr_nn, e1, ho], e2⟩
      | none =>
        have hnm := ans_none.mp hq
        have hput : ∀ v, v = 0 ∨ v = 1 → (put1 st n v).length ≤ st.length + 1 ∧ ∀ a ∈ put1 st n v, a.2 = 0 ∨ a.2 = 1 := fun v hv => by
          have := part_len hnm
          refine ⟨by unfold put1; simp at this ⊢; omega, fun a ha => ?_⟩
          unfold put1 at ha
          simp only [List.append_assoc, List.mem_append, List.mem_filter, List.mem_singleton] at ha
          rcases ha with ha | ha | ha
          · exact hst a ha.1
          · rw [ha]; exact hv
          · exact hst a ha.1
        obtain ⟨d0, f0, p0⟩ := ih l (put1 st n 0) (by omega) (by have := (hput 0 (.inl rfl)).1; omega) (hput 0 (.inl rfl)).2
        obtain ⟨d1, f1, p1⟩ := ih r (put1 st n 1) (by omega) (by have := (hput 1 (.inr rfl)).1; omega) (hput 1 (.inr rfl)).2
        have w0 := answer_put (v := 0) hnm (by omega)
        have w1 := answer_put (v := 1) hnm (by omega)
        have hc : walked_tree_c1 (m_walked_tree m) [some P, some (rowD st), some (.int n), some .non, none, none] [] = some (.ok (.new [.tup d0, .tup d1]), []) := by
          unfold walked_tree_c1
          refine eLc_all (chk := fun _ => True) [(0 : Int), 1] D.int (fun i => if i = 0 then .tup d0 else .tup d1) (by simp) rfl (by decide) trivial fun a ha => ⟨_, rfl, ?_, by split <;> rfl⟩
          have ha : a = 0 ∨ a = 1 := by simpa using ha
          rcases ha with rfl | rfl
          · have hx : gIx [] P (.int (3 + 0)) = some (pD l) := h3 []
            simp only [Int.add_zero] at hx
            simp [-eV_e, eV_n, wipeD, hPn, hx, tr_nn, w0, f0]
          · have hx : gIx [] P (.int (3 + 1)) = some (pD r) := h4 []
            have hx : gIx [] P (.int 4) = some (pD r) := hx
            simp [-eV_e, eV_n, wipeD, hPn, hx, tr_nn, w1, f1]
        have i0 : gIx [.lst [.tup d0, .tup d1]] (.ref 0) (.int 0) = some (.tup d0) := rfl
        have i1 : gIx [.lst [.tup d0, .tup d1]] (.ref 0) (.int 1) = some (.tup d1) := rfl
        have hpl : plainL [.str "ask", .int n, .tup d0, .tup d1] = true := by
          show (true && (true && (plainL d0 && (plainL d1 && true)))) = true
          rw [p0, p1]; rfl
        have ho := out_tup (μ := [.lst [.tup d0, .tup d1]]) hpl
        exact ⟨[.str "ask", .int n, .tup d0, .tup d1], by simp [-eV_e, eV_n, -eOwn_e, eOwn_n, hPn, h0, h1, str_eqF, answer_eq, hq, ansD, hc, i0, i1, ho], hpl⟩
end LK
set_option Elab.async false
set_option linter.all false
set_option maxRecDepth 100000
set_option maxHeartbeats 8000000
namespace LK
open PySem PySem.Spec PyProof.Rows L2 DL
/-! ### the same -/
theorem same_int (m : Nat) (i : Int) : m__law_same (m + 1) [.int i, .int i] = some (.ok (.bl true)) := by
  unfold m__law_same b__law_same
  simp
def StrOk (k : Str) : Prop := ∀ μ, gEqD false μ (.str k) (.str k) = some (.bl true)
theorem same_str (m : Nat) {k : Str} (h : StrOk k) : m__law_same (m + 1) [.str k, .str k] = some (.ok (.bl true)) := by
  have h0 := h []
  unfold m__law_same b__law_same
  simp [h0]
theorem same_tup (m : Nat) (ds : List D) (h : ∀ d ∈ ds, m__law_same m [d, d] = some (.ok (.bl true)) ∧ okA d = true ∧ notNew d = true) (hl : ds.length ≤ 1000) : m__law_same (m + 1) [.tup ds, .tup ds] = some (.ok (.bl true)) := by
  have hit : ∀ sd : Sl, sd[1]? = some (some (.tup ds)) → iR1 (eCons (eCB gLen (eCons (eV 1) (eNil))) (eNil)) sd [] = some (.ok ((List.range ds.length).map (fun i : Nat => D.int i), fun _ => True), []) := fun sd q => iR1_of (by simp [q]) (by omega)
  have hloop : ∃ sd, _law_same_l1 (m__law_same m) [some (.tup ds), some (.tup ds), none] [] = some (.nx, sd, []) := by
    unfold _law_same_l1
    rw [sFor_of (hit _ rfl)]
    obtain ⟨sd2, μ2, h1, o, rfl, rfl⟩ := loop_nx (chk := fun _ => True) (t := gD 2) (b := _law_same_b1 (m__law_same m)) (fun i : Nat => D.int i)
      (fun dn sd μ => ∃ o : Option D, sd = [some (.tup ds), some (.tup ds), o] ∧ μ = []) (List.range ds.length) [] _ _ ⟨none, rfl, rfl⟩ (by
        rintro dn x rest sd μ he ⟨o, rfl, rfl⟩
        have hx : x < ds.length := by
          have : x ∈ List.range ds.length := by rw [show List.range ds.length = dn ++ x :: rest from he]; simp
          simpa using this
        obtain ⟨e1, e2, e3⟩ := h ds[x] (List.getElem_mem hx)
        have hix : gIx [] (.tup ds) (.int x) = some ds[x] := ix_k x rfl (List.getElem?_eq_getElem hx) e3
        have ha := arg_of (μ := []) e2
        refine ⟨_, _, rfl, [some (.tup ds), some (.tup ds), some (.int x)], [], ?_, trivial, some (.int x), rfl, rfl⟩
        generalize ds[x] = dx at *
        unfold _law_same_b1
        simp [hix, ha, e1])
    exact ⟨_, h1⟩
  obtain ⟨sd, hloop⟩ := hloop
  unfold m__law_same b__law_same
  simp [hloop]
theorem same_pl (m : Nat) (l : List Int) (hl : l.length ≤ 1000) : m__law_same (m + 2) [plD l, plD l] = some (.ok (.bl true)) :=
  same_tup (m + 1) _ (fun d hd => by
    obtain ⟨i, _, rfl⟩ := List.mem_map.mp hd
    exact ⟨same_int m i, rfl, rfl⟩) (by rw [List.length_map]; exact hl)
/-! ### the kinds of faults -/
theorem ok_wish : StrOk "wish" := fun μ => by kernel_rfl
theorem ok_line : StrOk "line" := fun μ => by kernel_rfl
theorem ok_name : StrOk "name" := fun μ => by kernel_rfl
theorem ok_asked : StrOk "asked" := fun μ => by kernel_rfl
theorem ok_left : StrOk "left" := fun μ => by kernel_rfl
theorem ok_right : StrOk "right" := fun μ => by kernel_rfl
theorem ok_end : StrOk "end" := fun μ => by kernel_rfl
theorem nf_kind {names : Int} {ws : List Rw} : ∀ {p : Tr Int} {pl : List Int} {x : List Int × Str}, nf names ws p pl = some x → StrOk x.2 ∧ x.1.length ≤ pl.length + dp p
  | .w i, pl, x, h => by
    unfold nf at h
    split at h
    · cases h
    · cases h; exact ⟨ok_wish, Nat.le_refl _⟩
  | .f n line l r, pl, x, h => by
    unfold nf at h
    have here : ∀ k, StrOk k → some (pl, k) = some x → StrOk x.2 ∧ x.1.length ≤ pl.length + dp (.f n line l r) := fun k hk e => by cases e; exact ⟨hk, Nat.le_add_right _ _⟩
    split at h
    · rename_i y hy
      cases h
      obtain ⟨a, b⟩ := nf_kind hy
      exact ⟨a, by simp at b; simp only [dp]; omega⟩
    · split at h
      · rename_i y hy
        cases h
        obtain ⟨a, b⟩ := nf_kind hy
        exact ⟨a, by simp at b; simp only [dp]; omega⟩
      · split at h
        · exact here _ ok_line h
        · split at h
          · exact here _ ok_name h
          · split at h
            · exact here _ ok_asked h
            · split at h
              · exact here _ ok_left h
              · split at h
                · exact here _ ok_right h
                · cases h
theorem ltf_kind {names : Int} {ws : List Rw} {p : Tr Int} {x : List Int × Str} (hd : dp p ≤ 900) (h : ltf names ws p = some x) : StrOk x.2 ∧ x.1.length ≤ 1000 := by
  unfold ltf at h
  split at h
  · rename_i y hy
    cases h
    obtain ⟨a, b⟩ := nf_kind hy
    exact ⟨a, by simp at b; omega⟩
  · split at h
    · cases h
    · cases h; exact ⟨ok_end, Nat.zero_le _⟩
theorem same_ft {x : List Int × Str} (h : StrOk x.2 ∧ x.1.length ≤ 1000) : m__law_same 5 [ftD (some x), ftD (some x)] = some (.ok (.bl true)) :=
  same_tup 4 _ (fun d hd => by
    have hd : d = plD x.1 ∨ d = .str x.2 := by simpa using hd
    rcases hd with rfl | rfl
    · exact ⟨same_pl 2 x.1 h.2, ok_int x.1, rfl⟩
    · exact ⟨same_str 3 h.1, rfl, rfl⟩) (by show 2 ≤ 1000; decide)
theorem ft_ok (x : Fa2) : okA (ftD x) = true := by
  cases x with
  | none => rfl
  | some z => show (okAL (z.1.map D.int) && (true && true)) = true; rw [ok_int]; rfl
/-! ### refused -/
theorem ki1 : kiT "BadPaper" "BookError" = some true := by decide +kernel
theorem ki2 : kiT "BadPaper" "BadLiar" = some false := by decide +kernel
theorem ki3 : kiT "BadPaper" "BadWish" = some false := by decide +kernel
theorem ex1 : exT "BadPaper" "BadPaper" = some true := by decide +kernel
theorem xf1 : xfT "BadPaper" "place" = true := by decide +kernel
theorem xf2 : xfT "BadPaper" "kind" = true := by decide +kernel
theorem lk1 (a b : D) : List.lookup ("place" : Str) [(("kind" : Str), a), (("place" : Str), b)] = some b := by kernel_rfl
theorem lk2 (a b : D) : List.lookup ("kind" : Str) [(("kind" : Str), a), (("place" : Str), b)] = some a := by kernel_rfl
abbrev bp (x : List Int × Str) : Exn := ⟨"BadPaper", [("kind", .str x.2), ("place", plD x.1)]⟩
theorem refused_eq {names : Int} {ws : List Rw} (hw : ∀ r ∈ ws, r.length ≤ 1000) {p : Tr Int} (h : Sm p) : m__law_refused [bk names ws, pD p] = some (.ok (ftD (ltf names ws p))) := by
  have hf := ltf_eq (names := names) hw h
  have hPn := tr_nn (e := D.int) p
  have harg : ∀ μ, argD μ (.tup []) = some (.tup []) := fun μ => rfl
  have hlt : m_lines_tree [bk names ws, pD p] = match ltf names ws p with
      | none => m_lines_tree [bk names ws, pD p]
      | some x => some (.error (bp x)) := by
    cases hq : ltf names ws p with
    | none => rfl
    | some x =>
      rw [hq] at hf
      have i0 : gIx [] (ftD (some x)) (.int 0) = some (plD x.1) := ix_k 0 rfl rfl rfl
      have i1 : gIx [] (ftD (some x)) (.int 1) = some (.str x.2) := ix_k 1 rfl rfl rfl
      have hn := ft_nn (some x)
      have hpl : plainL [plD x.1, .str x.2] = true := by show (plainL (x.1.map D.int) && (true && true)) = true; rw [pl_int]; rfl
      have his := isN_ft [] true (some x)
      generalize ftD (some x) = F at *
      unfold m_lines_tree b_lines_tree sRaise
      simp [-eV_e, -eOwn_e, -gD_e, eV_n, eOwn_n, gD_n, hPn, hf, hn, his, i0, i1, hpl]
  cases hq : ltf names ws p with
  | none =>
    rw [hq] at hf
    obtain ⟨ds, e1, e2⟩ := walked_eq 110 p [] h.1 (by have := h.1; simp; omega) (fun a ha => by cases ha)
    have e1 : m_walked_tree 110 [pD p, .tup []] = some (.ok (.tup ds)) := e1
    have ho := out_tup (μ := []) e2
    have hok : m_lines_tree [bk names ws, pD p] = some (.ok (.tup ds)) := by
      have hf : m_line_tree_fault [bk names ws, pD p] = some (.ok .non) := hf
      unfold m_lines_tree b_lines_tree
      simp [-eV_e, -eOwn_e, -gD_e, eV_n, eOwn_n, gD_n, hPn, hf, harg, e1, ho]
    have hb : sDrop (eCall (m_lines_tree) 2 (eCons (eV 0) (eCons (eV 1) (eNil)))) [some (bk names ws), some (pD p), none] [] = some (.nx, [some (bk names ws), some (pD p), none], []) := by
      simp [-eV_e, eV_n, hPn, hok]
    have ht : sTry exT (sDrop (eCall (m_lines_tree) 2 (eCons (eV 0) (eCons (eV 1) (eNil))))) [⟨"BadPaper", some 2, _law_refused_h1⟩] [some (bk names ws), some (pD p), none] [] = some (.nx, [some (bk names ws), some (pD p), none], []) := by
      unfold sTry
      rw [hb]
    unfold m__law_refused b__law_refused
    simp [ht, ftD]
  | some x =>
    rw [hq] at hlt
    have hlt : m_lines_tree [bk names ws, pD p] = some (.error (bp x)) := hlt
    have hb : sDrop (eCall (m_lines_tree) 2 (eCons (eV 0) (eCons (eV 1) (eNil)))) [some (bk names ws), some (pD p), none] [] = some (.exc (bp x), [some (bk names ws), some (pD p), none], []) := by
      generalize bp x = B at *
      simp [-eV_e, eV_n, hPn, hlt]
    have hh : ∀ a' d' : Addr, finS 2 (_law_refused_h1 a' d' (bp x) [some (bk names ws), some (pD p), some (.exh a' d' "BadPaper" [("kind", .str x.2), ("place", plD x.1)])] []) = some (.ret (ftD (some x)), [some (bk names ws), some (pD p), none], []) := by
      intro a' d'
      have j1 : gIsE kiT kiT2 a' d' (bp x).cls [] [.exh a' d' "BadPaper" [("kind", .str x.2), ("place", plD x.1)], .glob "BookError"] = some (.bl true) := by
        show (if a' = a' ∧ d' = d' ∧ ("BadPaper" : Str) = "BadPaper" then (kiT "BadPaper" "BookError").map D.bl else none) = _
        rw [if_pos ⟨rfl, rfl, rfl⟩, ki1]
        rfl
      have j2 : gIsT kiT a' d' (bp x).cls [] [.exh a' d' "BadPaper" [("kind", .str x.2), ("place", plD x.1)], .tup [.glob "BadLiar", .glob "BadWish"]] = some (.bl false) := by
        show (if a' = a' ∧ d' = d' ∧ ("BadPaper" : Str) = "BadPaper" then (anyT (kiT "BadPaper") [.glob "BadLiar", .glob "BadWish"]).map D.bl else none) = _
        rw [if_pos ⟨rfl, rfl, rfl⟩]
        unfold anyT anyT anyT
        rw [ki2, ki3]
        rfl
      have hx1 : eXf xfT a' d' (bp x) "place" (eV 2) [some (bk names ws), some (pD p), some (.exh a' d' "BadPaper" [("kind", .str x.2), ("place", plD x.1)])] [] = some (.ok (plD x.1), []) := by
        unfold eXf
        rw [show (bp x).cls = "BadPaper" from rfl, xf1, if_pos rfl]
        simp [bE, lk1]
      have hx2 : eXf xfT a' d' (bp x) "kind" (eV 2) [some (bk names ws), some (pD p), some (.exh a' d' "BadPaper" [("kind", .str x.2), ("place", plD x.1)])] [] = some (.ok (.str x.2), []) := by
        unfold eXf
        rw [show (bp x).cls = "BadPaper" from rfl, xf2, if_pos rfl]
        simp [bE, lk2]
      have ho : outD [] (.tup [plD x.1, .str x.2]) = some (.tup [plD x.1, .str x.2]) := ft_out [] (some x)
      unfold _law_refused_h1
      generalize hE : D.exh a' d' "BadPaper" [("kind", .str x.2), ("place", plD x.1)] = E at *
      have hEn : notNew E = true := by rw [← hE]; rfl
      generalize bp x = B at *
      simp [-eV_e, eV_n, hEn, j1, j2, hx1, hx2, ho, finS, ftD]
    have hp : pickS exT [⟨"BadPaper", some 2, _law_refused_h1⟩] (bp x) [some (bk names ws), some (pD p), none] [] = some (.ret (ftD (some x)), [some (bk names ws), some (pD p), none], []) := by
      unfold pickS
      rw [show (bp x).cls = "BadPaper" from rfl]
      simp only [ex1]
      refine Eq.trans (when_t ?_) ?_
      · exact fun a d => (hh a d).trans (hh 0 0).symm
      · exact hh 0 0
    have ht : sTry exT (sDrop (eCall (m_lines_tree) 2 (eCons (eV 0) (eCons (eV 1) (eNil))))) [⟨"BadPaper", some 2, _law_refused_h1⟩] [some (bk names ws), some (pD p), none] [] = some (.ret (ftD (some x)), [some (bk names ws), some (pD p), none], []) := by
      unfold sTry
      rw [hb]
      exact hp
    unfold m__law_refused b__law_refused
    simp [ht]
/-! ### judged -/
theorem judged_eq {names : Int} {ws : List Rw} (hw : ∀ r ∈ ws, r.length ≤ 1000) {p : Tr Int} (h : Sm p) : m__law_judged [.int names, .lst (ws.map rowD), bk names ws, pD p] = some (.ok (.bl true)) := by
  have h1 := due_eq (names := names) hw h
  have h2 := ltf_eq (names := names) hw h
  have h3 := refused_eq (names := names) hw h
  have h4 := leaves_eq 110 p h.1
  have h5 := leafRows_eq (e := D.int) (fun _ => rfl) (fun _ => rfl) (fun _ => rfl) 110 p h.1 h.2.2
  have h5 : m__law_leaf_rows 110 [pD p] = some (.ok (.new ((lvs p).map D.int))) := h5
  have h6 : gLen [] [.new ((lvs p).map D.int)] = some (.int (cnt p)) := by rw [len_new, List.length_map, lvs_len]
  have h7 := same_int 4 (cnt p)
  have hPn := tr_nn (e := D.int) p
  have hn := ft_nn (ltf names ws p)
  have his := fun b => isN_ft [] b (ltf names ws p)
  have hok := arg_of (μ := []) (ft_ok (ltf names ws p))
  unfold m__law_judged b__law_judged
  cases hq : ltf names ws p with
  | none =>
    rw [hq] at h1 h2 h3
    have h1 : m__law_due [.int names, .lst (ws.map rowD), pD p] = some (.ok .non) := h1
    have h2 : m_line_tree_fault [bk names ws, pD p] = some (.ok .non) := h2
    have h3 : m__law_refused [bk names ws, pD p] = some (.ok .non) := h3
    simp [-eV_e, -eOwn_e, -gD_e, eV_n, eOwn_n, gD_n, hPn, h1, h2, h3, h4, h5, h6, h7]
  | some x =>
    rw [hq] at h1 h2 h3 hn his hok
    have h8 := same_ft (ltf_kind (by have := h.1; omega) hq)
    generalize ftD (some x) = F at *
    simp [-eV_e, -eOwn_e, -gD_e, eV_n, eOwn_n, gD_n, hPn, h1, h2, h3, h4, h5, h6, h7, hn, his, hok, h8]
end LK
set_option Elab.async false
set_option linter.all false
set_option maxRecDepth 100000
set_option maxHeartbeats 8000000
namespace LK
open PySem PySem.Spec PyProof.Rows L2 DL
/-! ### right rows -/
structure RR (names : Int) (r : Rw) : Prop where
  asc : r.Pairwise fun a b => a.1 < b.1
  rng : ∀ a ∈ r, 1 ≤ a.1 ∧ a.1 ≤ names ∧ (a.2 = 0 ∨ a.2 = 1)
theorem RR.sub {names : Int} {r s : Rw} (h : RR names r) (q : s.Sublist r) : RR names s := ⟨h.asc.sublist q, fun a ha => h.rng a (q.subset ha)⟩
theorem RR.rgt {names : Int} {r : Rw} (h : RR names r) : rgt names 0 r = true := by
  have key : ∀ (r : Rw) (last : Int), RR names r → (∀ a ∈ r, last < a.1) → LK.rgt names last r = true := by
    intro r
    induction r with
    | nil => intro _ _ _; rfl
    | cons a r ih =>
      intro last h hl
      obtain ⟨h1, h2⟩ := List.pairwise_cons.mp h.asc
      obtain ⟨k1, k2, k3⟩ := h.rng a List.mem_cons_self
      have k4 := hl a List.mem_cons_self
      unfold LK.rgt
      rw [decide_eq_true ⟨k4, k2⟩, decide_eq_true k3, ih a.1 ⟨h2, fun b hb => h.rng b (List.mem_cons_of_mem _ hb)⟩ h1]
      rfl
  exact key r 0 h fun a ha => by have := (h.rng a ha).1; omega
theorem RR.len {names : Int} {r : Rw} (h : RR names r) : r.length ≤ names.toNat := by
  have key : ∀ (r : Rw) (last : Int), RR names r → (∀ a ∈ r, last < a.1) → r.length ≤ (names - last).toNat := by
    intro r
    induction r with
    | nil => intro _ _ _; exact Nat.zero_le _
    | cons a r ih =>
      intro last h hl
      obtain ⟨h1, h2⟩ := List.pairwise_cons.mp h.asc
      obtain ⟨k1, k2, k3⟩ := h.rng a List.mem_cons_self
      have k4 := hl a List.mem_cons_self
      have k5 := ih a.1 ⟨h2, fun b hb => h.rng b (List.mem_cons_of_mem _ hb)⟩ h1
      rw [List.length_cons]
      omega
  have := key r 0 h fun a ha => by have := (h.rng a ha).1; omega
  simpa using this
theorem leE_wd (a b : Wd) : leE a b = decide (a.1 < b.1 ∨ (a.1 = b.1 ∧ a.2 ≤ b.2)) := leD_wd a b
def srt (r : Rw) : Rw := r.mergeSort leE
theorem srt_mem {r : Rw} {a : Wd} : a ∈ srt r ↔ a ∈ r := (List.mergeSort_perm r leE).mem_iff
theorem RR.add {names n v : Int} {r : Rw} (h : RR names r) (hn : n ∉ r.map (·.1)) (h1 : 1 ≤ n) (h2 : n ≤ names) (hv : v = 0 ∨ v = 1) : RR names (srt (r ++ [(n, v)])) := by
  refine ⟨?_, fun a ha => ?_⟩
  · have p := List.mergeSort_perm (r ++ [(n, v)]) leE
    have nd : ((r ++ [(n, v)]).map (·.1)).Nodup := by
      rw [List.map_append]
      refine List.nodup_append.mpr ⟨?_, by simp, fun x hx y hy e => ?_⟩
      · rw [List.nodup_iff_pairwise_ne, List.pairwise_map]
        exact h.asc.imp fun q => by omega
      · simp at hy
        subst hy
        rw [e] at hx
        exact hn hx
    have nd2 : ((srt (r ++ [(n, v)])).map (·.1)).Nodup := (p.map (·.1)).nodup_iff.mpr nd
    rw [List.nodup_iff_pairwise_ne, List.pairwise_map] at nd2
    have s := PySem.W.sort_pairwise (leE_total (α := Wd)) (r ++ [(n, v)])
    refine (List.Pairwise.and s nd2).imp fun {a b} q => ?_
    obtain ⟨q1, q2⟩ := q
    rw [leE_wd, decide_eq_true_eq] at q1
    omega
  · rcases List.mem_append.mp (srt_mem.mp ha) with q | q
    · exact h.rng a q
    · rw [List.mem_singleton.mp q]; exact ⟨h1, h2, hv⟩
/-! ### a part of a row -/
theorem part_eq (draw : Int) (r : Rw) (hl : r.length ≤ 1000) : ∃ s : Rw, m__law_part [.int draw, rowD r] = some (.ok (rowD s)) ∧ s.Sublist r := by
  have hit : ∀ (sd : Sl) (μ : Mem), sd[1]? = some (some (rowD r)) → iSeq (eV 1) sd μ = some (.ok (r.map wd, fun _ => True), μ) := fun sd μ h => by simp [h]
  have key : ∀ (l done : Rw) (s : Rw) (rest : Int) (o : Option D), s.Sublist done → done.length + l.length ≤ 1000 → ∃ (s' : Rw) (rest' : Int) (o' : Option D), s'.Sublist (done ++ l) ∧ loopF (fun _ => True) (gD 4) _law_part_b1 (l.map wd) [some (.int draw), some (rowD r), some (.ref 0), some (.int rest), o] [.lst (s.map wd)] =
      some (.nx, [some (.int draw), some (rowD r), some (.ref 0), some (.int rest'), o'], [.lst (s'.map wd)]) := by
    intro l
    induction l with
    | nil => intro done s rest o hs _; exact ⟨s, rest, o, by rw [List.append_nil]; exact hs, rfl⟩
    | cons a l ih =>
      intro done s rest o hs hlen
      rw [List.length_cons] at hlen
      have h2 : ∀ μ, gModI μ (.int rest) (.int 2) = some (.int (rest % 2)) := fun μ => mod_int (by decide)
      have h3 : ∀ μ, gDivI μ (.int rest) (.int 2) = some (.int (rest / 2)) := fun μ => div_int ⟨by decide, by decide⟩
      have hsl := hs.length_le
      have h1 : muAppend [.lst (s.map wd)] (.ref 0) [wd a] = some (.non, [.lst ((s ++ [a]).map wd)]) := by
        rw [app_ref (es := s.map wd) rfl (by rw [List.length_map]; omega) rfl]
        simp
      by_cases c : rest % 2 = 0
      · have hb : _law_part_b1 [some (.int draw), some (rowD r), some (.ref 0), some (.int rest), some (wd a)] [.lst (s.map wd)] = some (.nx, [some (.int draw), some (rowD r), some (.ref 0), some (.int (rest / 2)), some (wd a)], [.lst ((s ++ [a]).map wd)]) := by
          unfold _law_part_b1
          simp [-List.map_append, h2, c, h3, h1]
        obtain ⟨s', rest', o', e1, e2⟩ := ih (done ++ [a]) (s ++ [a]) (rest / 2) (some (wd a)) (List.Sublist.append hs (List.Sublist.refl _)) (by simp; omega)
        exact ⟨s', rest', o', by rw [List.append_assoc] at e1; exact e1, (loop_go (sd1 := [some (.int draw), some (rowD r), some (.ref 0), some (.int rest), some (wd a)]) rfl hb trivial).trans e2⟩
      · have hb : _law_part_b1 [some (.int draw), some (rowD r), some (.ref 0), some (.int rest), some (wd a)] [.lst (s.map wd)] = some (.nx, [some (.int draw), some (rowD r), some (.ref 0), some (.int (rest / 2)), some (wd a)], [.lst (s.map wd)]) := by
          unfold _law_part_b1
          simp [h2, c, h3]
        obtain ⟨s', rest', o', e1, e2⟩ := ih (done ++ [a]) s (rest / 2) (some (wd a)) (hs.trans (List.sublist_append_left _ _)) (by simp; omega)
        exact ⟨s', rest', o', by rw [List.append_assoc] at e1; exact e1, (loop_go (sd1 := [some (.int draw), some (rowD r), some (.ref 0), some (.int rest), some (wd a)]) rfl hb trivial).trans e2⟩
  obtain ⟨s, rest', o', hs, e⟩ := key r [] [] draw none (List.Sublist.refl _) (by simpa using hl)
  refine ⟨s, ?_, by simpa using hs⟩
  have hloop : _law_part_l1 [some (.int draw), some (rowD r), some (.ref 0), some (.int draw), none] [.lst []] = some (.nx, [some (.int draw), some (rowD r), some (.ref 0), some (.int rest'), o'], [.lst (s.map wd)]) := by
    unfold _law_part_l1
    rw [sFor_of (hit _ _ rfl)]
    exact e
  have t1 : gTuple [.lst (s.map wd)] [.ref 0] = some (rowD s) := tup_any rfl
  have ho := out_tup (μ := [.lst (s.map wd)]) (pl_wd s)
  unfold m__law_part b__law_part
  simp [hloop, t1, ho]
end LK
set_option Elab.async false
set_option linter.all false
set_option maxRecDepth 100000
set_option maxHeartbeats 16000000
namespace LK
open PySem PySem.Spec PyProof.Rows L2 DL
/-! ### a grown tree -/
def Gd (names : Int) : Rw → Tr Rw → Prop
  | al, .w row => (∀ a ∈ row, a ∈ al) ∧ RR names row
  | al, .f n line l r => (∀ a ∈ line, a ∈ al) ∧ RR names line ∧ 1 ≤ n ∧ n ≤ names ∧ n ∉ line.map (·.1) ∧ Gd names (line ++ [(n, 1)]) l ∧ Gd names (line ++ [(n, 0)]) r
theorem Gd.mono {names : Int} {al al' : Rw} (h : ∀ a ∈ al, a ∈ al') : ∀ {t : Tr Rw}, Gd names al t → Gd names al' t
  | .w _, ⟨a, b⟩ => ⟨fun x hx => h x (a x hx), b⟩
  | .f _ _ _ _, ⟨a, b⟩ => ⟨fun x hx => h x (a x hx), b⟩
/-- leaves at most -/
def bd (narrow : Int) (d : Nat) : Nat := if 0 < narrow then d + 1 else 2 ^ d
theorem bd_pos (narrow : Int) (d : Nat) : 1 ≤ bd narrow d := by
  unfold bd
  split
  · omega
  · exact Nat.one_le_two_pow
abbrev rD : Tr Rw → D := trD rowD
theorem rD_plain (t : Tr Rw) : DL.plain (rD t) = true := tr_plain (e := rowD) (fun r => pl_wd r) t
theorem rD_ok (t : Tr Rw) : okA (rD t) = true := tr_ok (e := rowD) (fun r => ok_wd r) t
theorem grow_eq (l : List Int) (hl0 : l ≠ []) (hl1 : l.length ≤ 1000) (hd : Dr l) (N : Nat) (hN : N ≤ 40) (narrow : Int) : ∀ (m d : Nat) (al : Rw) (at_ : Int), RR N al → d < m → 0 ≤ at_ → at_ + 2 * (bd narrow d : Int) ≤ 1000000 →
    ∃ (t : Tr Rw) (at' : Int), m__law_grow m [.lst (l.map D.int), .int N, rowD al, .int d, .int narrow, .int at_] = some (.ok (.tup [rD t, .int at'])) ∧ Gd N al t ∧ dp t ≤ d ∧ cnt t ≤ bd narrow d ∧ at' = at_ + 2 * (cnt t : Int) - 1 := by
  intro m
  induction m with
  | zero => intro d al at_ _ h; omega
  | succ m ih =>
    intro d al at_ hal hdm hat hbd
    have hlp : 0 < l.length := List.length_pos_iff.mpr hl0
    have hallen := hal.len
    have hbp := bd_pos narrow d
    -- the list of draws
    have hLix : ∀ (μ : Mem) (i : Int), 0 ≤ i → i < l.length → gIx μ (.lst (l.map D.int)) (.int i) = some (.int (l.getD i.toNat 0)) := fun μ i h0 h1 => ix_int (.inr rfl) h0 h1
    have hLl : ∀ μ, gLen μ [.lst (l.map D.int)] = some (.int l.length) := fun μ => by rw [len_lst, List.length_map]
    have hLa : ∀ μ, argD μ (.lst (l.map D.int)) = some (.lst (l.map D.int)) := fun μ => if_pos (ok_int l)
    generalize hLg : D.lst (l.map D.int) = L at *
    have hLn : notNew L = true := by rw [← hLg]; rfl
    have hi1 : 0 ≤ at_ % (l.length : Int) := Int.emod_nonneg _ (by omega)
    have hi2 : at_ % (l.length : Int) < l.length := Int.emod_lt_of_pos _ (by omega)
    have hj1 : 0 ≤ (at_ * 7 + 3) % (l.length : Int) := Int.emod_nonneg _ (by omega)
    have hj2 : (at_ * 7 + 3) % (l.length : Int) < l.length := Int.emod_lt_of_pos _ (by omega)
    have hm1 : ∀ μ, gModI μ (.int at_) (.int l.length) = some (.int (at_ % l.length)) := fun μ => mod_int (by omega)
    have hm2 : ∀ μ, gModI μ (.int (at_ * 7 + 3)) (.int l.length) = some (.int ((at_ * 7 + 3) % l.length)) := fun μ => mod_int (by omega)
    have hmul : ∀ μ, gMulA μ (.int at_) (.int 7) = some (.int (at_ * 7)) := fun μ => mulA (small_mul 70 20 (by omega) (by decide))
    have hx1 := fun μ => hLix μ _ hi1 hi2
    have hx2 := fun μ => hLix μ _ hj1 hj2
    have hdr : ∀ i : Nat, 0 ≤ l.getD i 0 ∧ l.getD i 0 < 60 := fun i => by
      rw [List.getD_eq_getElem?_getD]
      cases q : l[i]? with
      | none => simp
      | some x => simpa using hd x (List.mem_of_getElem? q)
    generalize l.getD (at_ % (l.length : Int)).toNat 0 = dr at hx1
    have hdr2 := hdr ((at_ * 7 + 3) % (l.length : Int)).toNat
    generalize l.getD ((at_ * 7 + 3) % (l.length : Int)).toNat 0 = ot at hx2 hdr2
    unfold m__law_grow b__law_grow
    rw [runF_def]
    simp only [List.map_cons, List.map_nil, List.length_cons, List.length_nil, List.cons_append, List.nil_append, Nat.zero_add, Nat.reduceAdd, Nat.reduceSub, List.reduceReplicate]
    rw [sSeq_of (sd1 := [some L, some (.int N), some (rowD al), some (.int d), some (.int narrow), some (.int at_), some (.int dr), none, none, none, none, none, none, none, none, none]) (μ1 := []) (by simp [-eV_e, -eOwn_e, eV_n, eOwn_n, hLn, hLl, hm1, hx1])]
    rw [sSeq_of (sd1 := [some L, some (.int N), some (rowD al), some (.int d), some (.int narrow), some (.int at_), some (.int dr), some (.int ot), none, none, none, none, none, none, none, none]) (μ1 := []) (by simp [-eV_e, -eOwn_e, eV_n, eOwn_n, hLn, hLl, hmul, hm2, hx2])]
    -- the line
    have h3 : ∃ ln : Rw, ln.Sublist al ∧ (sAsg (eOwn (eIf (qB (eBin gGtI (eBin gModI (eV 7) (eC (.int 3))) (eC (.int 0)))) (eV 2) (eCall (m__law_part) 2 (eCons (eV 6) (eCons (eV 2) (eNil)))))) (gD 8)) [some L, some (.int N), some (rowD al), some (.int d), some (.int narrow), some (.int at_), some (.int dr), some (.int ot), none, none, none, none, none, none, none, none] [] = some (.nx, [some L, some (.int N), some (rowD al), some (.int d), some (.int narrow), some (.int at_), some (.int dr), some (.int ot), some (rowD ln), none, none, none, none, none, none, none], []) := by
      have hmo : ∀ μ, gModI μ (.int ot) (.int 3) = some (.int (ot % 3)) := fun μ => mod_int (by decide)
      by_cases c : ot % 3 > 0
      · exact ⟨al, List.Sublist.refl _, by simp [hmo, c]⟩
      · obtain ⟨s, e, hs⟩ := part_eq dr al (by omega)
        exact ⟨s, hs, by simp [hmo, c, e]⟩
    obtain ⟨ln0, hln0, h3⟩ := h3
    rw [sSeq_of h3]
    have h4 : ∃ ln : Rw, ln.Sublist al ∧ (sIf (qAnd (qB (eBin gGtI (eV 4) (eC (.int 1)))) (qB (eBin (gEqD false) (eCB gLen (eCons (eV 8) (eNil))) (eV 1)))) (sAsg (eOwn (eSl gSl (eV 8) (oSome (eC (.int 1))) (oNone))) (gD 8)) (sSkip)) [some L, some (.int N), some (rowD al), some (.int d), some (.int narrow), some (.int at_), some (.int dr), some (.int ot), some (rowD ln0), none, none, none, none, none, none, none] [] = some (.nx, [some L, some (.int N), some (rowD al), some (.int d), some (.int narrow), some (.int at_), some (.int dr), some (.int ot), some (rowD ln), none, none, none, none, none, none, none], []) := by
      by_cases c1 : narrow > 1
      · by_cases c2 : (ln0.length : Int) = N
        · cases ln0 with
          | nil => exact ⟨[], List.nil_sublist _, by
            have hs : gSl [] (rowD []) (some 1) none = some (rowD []) := rfl
            have hs2 : gSl [] (.tup []) (some 1) none = some (.tup []) := rfl
            have c3 : (N : Int) = 0 := by simpa using c2.symm
            simp [c1, hs, hs2, c3]⟩
          | cons a r =>
            have hs : gSl [] (rowD (a :: r)) (some 1) none = some (rowD r) := sl_tup1 [] (wd a) (r.map wd)
            have c2 : decide ((List.length (a :: r) : Int) = (N : Int)) = true := decide_eq_true c2
            refine ⟨r, (List.sublist_cons_self a r).trans hln0, ?_⟩
            have hlen : gLen [] [rowD (a :: r)] = some (.int (List.length (a :: r))) := by rw [len_tup, List.length_map]
            generalize hR : rowD (a :: r) = R at *
            have hRn : notNew R = true := by rw [← hR]; rfl
            have he : gEqD false [] (.int (List.length (a :: r))) (.int N) = some (.bl true) := by rw [DL.eq_int, c2]; rfl
            generalize ((List.length (a :: r) : Nat) : Int) = LL at *
            simp [-eV_e, -eOwn_e, eV_n, eOwn_n, hRn, c1, hlen, he, hs]
        · have c2 : decide ((ln0.length : Int) = (N : Int)) = false := decide_eq_false c2
          have he : gEqD false [] (.int ln0.length) (.int N) = some (.bl false) := by rw [DL.eq_int, c2]; rfl
          have hlen : gLen [] [rowD ln0] = some (.int ln0.length) := by rw [len_tup, List.length_map]
          refine ⟨ln0, hln0, ?_⟩
          generalize ((List.length ln0 : Nat) : Int) = LL at *
          simp [-len_tup, c1, hlen, he]
      · exact ⟨ln0, hln0, by simp [c1]⟩
    obtain ⟨ln, hln, h4⟩ := h4
    rw [sSeq_of h4]
    clear h3 h4 hln0 ln0
    have hlnR := hal.sub hln
    have hlnl := hlnR.len
    -- the free names
    obtain ⟨fr, hfr⟩ : ∃ fr : List Int, fr = ((List.range N).map fun i : Nat => (1 + (i : Nat) : Int)).filter fun n => !decide (n ∈ ln.map (·.1)) := ⟨_, rfl⟩
    have hfrm : ∀ n ∈ fr, 1 ≤ n ∧ n ≤ N ∧ n ∉ ln.map (·.1) := fun n hn => by
      rw [hfr, List.mem_filter] at hn
      obtain ⟨h1, h2⟩ := hn
      obtain ⟨i, hi, rfl⟩ := List.mem_map.mp h1
      have := List.mem_range.mp hi
      refine ⟨by omega, by omega, ?_⟩
      simpa using h2
    have hfl : fr.length ≤ 40 := by
      rw [hfr]
      refine Nat.le_trans (List.length_filter_le _ _) ?_
      simp
      exact hN
    have h5 : _law_grow_c4 (m__law_grow m) [some L, some (.int N), some (rowD al), some (.int d), some (.int narrow), some (.int at_), some (.int dr), some (.int ot), some (rowD ln), none, none, none, none, none, none, none] [] = some (.ok (.new (fr.map D.int)), []) := by
      have hr : iR2 (eCons (eC (.int 1)) (eCons (eBin gAdd (eV 1) (eC (.int 1))) (eNil))) [some L, some (.int N), some (rowD al), some (.int d), some (.int narrow), some (.int at_), some (.int dr), some (.int ot), some (rowD ln), none, none, none, none, none, none, none] [] = some (.ok (((List.range N).map fun i : Nat => (1 + (i : Nat) : Int)).map D.int, fun _ => True), []) := by
        unfold iR2
        have e0 : eCons (eC (.int 1)) (eCons (eBin gAdd (eV 1) (eC (.int 1))) (eNil)) [some L, some (.int N), some (rowD al), some (.int d), some (.int narrow), some (.int at_), some (.int dr), some (.int ot), some (rowD ln), none, none, none, none, none, none, none] [] = some (.ok [.int 1, .int (N + 1)], []) := by simp
        rw [e0]
        simp only [bE_ok, two_e, Option.bind_some]
        rw [show DL.intD (.int 1) = some 1 from rfl, Option.bind_some, show DL.intD (.int ((N : Int) + 1)) = some ((N : Int) + 1) from rfl, Option.bind_some, when_t (by omega)]
        unfold rangeD
        rw [List.map_map]
        have e1 : ((N : Int) + 1 - 1).toNat = N := by omega
        rw [e1]
        rfl
      unfold _law_grow_c4
      rw [hfr]
      refine eLc_eq (chk := fun _ => True) ((List.range N).map fun i : Nat => (1 + (i : Nat) : Int)) D.int (fun n => !decide (n ∈ ln.map (·.1))) D.int hr rfl (by simp; omega) trivial ?_
      intro n hn
      refine ⟨_, rfl, ?_, fun _ => ⟨?_, rfl⟩⟩
      case refine_2 => simp [wipeD]
      have hc3 : _law_grow_c3 (m__law_grow m) [some L, some (.int N), some (rowD al), some (.int d), some (.int narrow), some (.int at_), some (.int dr), some (.int ot), some (rowD ln), none, some (.int n), none, none, none, none, none] [] = some (.ok (.new ((ln.map (·.1)).map D.int)), []) := by
        unfold _law_grow_c3
        rw [List.map_map]
        refine eLc_all (chk := fun _ => True) ln wd (fun a => D.int a.1) (by simp) rfl (by omega) trivial fun a ha => ⟨_, rfl, ?_, rfl⟩
        simp [wipeD]
      have hin := in_ints [] true n (ln.map (·.1))
      generalize (ln.map (·.1)).map D.int = LN at *
      simp [-List.mem_map, wipeD, hc3, hin]
    rw [sSeq_of (sd1 := [some L, some (.int N), some (rowD al), some (.int d), some (.int narrow), some (.int at_), some (.int dr), some (.int ot), some (rowD ln), some (.ref 0), none, none, none, none, none, none]) (μ1 := [.lst (fr.map D.int)]) (by simp [-eOwn_e, eOwn_n, h5])]
    have hfre : ∀ μ : Mem, μ[0]? = some (.lst (fr.map D.int)) → gLen μ [.ref 0] = some (.int fr.length) := fun μ q => by
      rw [len_any (ds := fr.map D.int) (by simp [q]), List.length_map]
    have hmo5 : ∀ μ, gModI μ (.int dr) (.int 5) = some (.int (dr % 5)) := fun μ => mod_int (by decide)
    -- a leaf, or on
    by_cases hstop : d < 1 ∨ fr.length = 0 ∨ (narrow < 2 ∧ 0 < al.length ∧ dr % 5 = 4)
    · have hcond : (qOr (qB (eBin gLtI (eV 3) (eC (.int 1)))) (qOr (qB (eBin (gEqD false) (eCB gLen (eCons (eV 9) (eNil))) (eC (.int 0)))) (qAnd (qB (eBin gLtI (eV 4) (eC (.int 2)))) (qAnd (qB (eBin gGtI (eCB gLen (eCons (eV 2) (eNil))) (eC (.int 0)))) (qB (eBin (gEqD false) (eBin gModI (eV 6) (eC (.int 5))) (eC (.int 4)))))))) [some L, some (.int N), some (rowD al), some (.int d), some (.int narrow), some (.int at_), some (.int dr), some (.int ot), some (rowD ln), some (.ref 0), none, none, none, none, none, none] [.lst (fr.map D.int)] = some (.ok true, [.lst (fr.map D.int)]) := by
        by_cases c1 : d < 1
        · have c1' : d = 0 := by omega
          simp [c1']
        · have c1' : ¬ (d : Int) < 1 := by omega
          by_cases c2 : fr.length = 0
          · have c2' : (fr.length : Int) = 0 := by omega
            have e9 := hfre [.lst (fr.map D.int)] rfl
            rw [c2'] at e9
            simp [decide_eq_false c1', e9]
          · have c2' : ¬ (fr.length : Int) = 0 := by omega
            obtain ⟨k1, k2, k3⟩ := (hstop.resolve_left c1).resolve_left c2
            have e9 := hfre [.lst (fr.map D.int)] rfl
            have e8 : gEqD false [.lst (fr.map D.int)] (.int fr.length) (.int 0) = some (.bl false) := by rw [DL.eq_int, decide_eq_false c2']; rfl
            have e7 : gLen [.lst (fr.map D.int)] [rowD al] = some (.int al.length) := by rw [len_tup, List.length_map]
            have e6 : gGtI [.lst (fr.map D.int)] (.int al.length) (.int 0) = some (.bl true) := by rw [DL.gt_int, decide_eq_true (by omega)]
            generalize ((fr.length : Nat) : Int) = F1 at *
            generalize ((al.length : Nat) : Int) = A1 at *
            simp [-len_tup, -DL.gt_int, decide_eq_false c1', e9, e8, k1, e7, e6, hmo5, k3]
      have hw : ∃ row : Rw, (row = ln ∨ row = al) ∧ (sIf (qOr (qB (eBin gLtI (eV 3) (eC (.int 1)))) (qOr (qB (eBin (gEqD false) (eCB gLen (eCons (eV 9) (eNil))) (eC (.int 0)))) (qAnd (qB (eBin gLtI (eV 4) (eC (.int 2)))) (qAnd (qB (eBin gGtI (eCB gLen (eCons (eV 2) (eNil))) (eC (.int 0)))) (qB (eBin (gEqD false) (eBin gModI (eV 6) (eC (.int 5))) (eC (.int 4)))))))) (sRet (eTup (eCons (eTup (eCons (eC (.str "wish")) (eCons (eIf (qB (eBin gGtI (eCB gLen (eCons (eV 8) (eNil))) (eC (.int 0)))) (eV 8) (eV 2)) (eNil)))) (eCons (eBin gAdd (eV 5) (eC (.int 1))) (eNil))))) (sSkip)) [some L, some (.int N), some (rowD al), some (.int d), some (.int narrow), some (.int at_), some (.int dr), some (.int ot), some (rowD ln), some (.ref 0), none, none, none, none, none, none] [.lst (fr.map D.int)] = some (.ret (.tup [rD (.w row), .int (at_ + 1)]), [some L, some (.int N), some (rowD al), some (.int d), some (.int narrow), some (.int at_), some (.int dr), some (.int ot), some (rowD ln), some (.ref 0), none, none, none, none, none, none], [.lst (fr.map D.int)]) := by
        have ho : ∀ (μ : Mem) (row : Rw), outD μ (.tup [.tup [.str "wish", rowD row], .int (at_ + 1)]) = some (.tup [.tup [.str "wish", rowD row], .int (at_ + 1)]) := fun μ row => out_tup (by
          show ((true && (plainL (row.map wd) && true)) && (true && true)) = true
          rw [pl_wd]; rfl)
        by_cases c : 0 < ln.length
        · have e7 : ∀ μ, gLen μ [rowD ln] = some (.int ln.length) := fun μ => by rw [len_tup, List.length_map]
          have e6 : ∀ μ, gGtI μ (.int ln.length) (.int 0) = some (.bl true) := fun μ => by rw [DL.gt_int, decide_eq_true (by omega)]
          refine ⟨ln, .inl rfl, sIf_t hcond ?_⟩
          generalize ((ln.length : Nat) : Int) = A1 at *
          simp [-len_tup, -DL.gt_int, e7, e6, ho, trD]
        · have e7 : ∀ μ, gLen μ [rowD ln] = some (.int ln.length) := fun μ => by rw [len_tup, List.length_map]
          have e6 : ∀ μ, gGtI μ (.int ln.length) (.int 0) = some (.bl false) := fun μ => by rw [DL.gt_int, decide_eq_false (by omega)]
          refine ⟨al, .inr rfl, sIf_t hcond ?_⟩
          generalize ((ln.length : Nat) : Int) = A1 at *
          simp [-len_tup, -DL.gt_int, e7, e6, ho, trD]
      obtain ⟨row, hrow, hw⟩ := hw
      refine ⟨.w row, at_ + 1, by rw [sSeq_ret hw], ?_, Nat.zero_le _, ?_, ?_⟩
      · rcases hrow with rfl | rfl
        · exact ⟨fun a ha => hln.subset ha, hlnR⟩
        · exact ⟨fun a ha => ha, hal⟩
      · exact hbp
      · show at_ + 1 = at_ + 2 * ((1 : Nat) : Int) - 1
        omega
    · have c1 : ¬ d < 1 := fun q => hstop (.inl q)
      have c2 : ¬ fr.length = 0 := fun q => hstop (.inr (.inl q))
      have c3 : ¬ (narrow < 2 ∧ 0 < al.length ∧ dr % 5 = 4) := fun q => hstop (.inr (.inr q))
      have c1' : ¬ (d : Int) < 1 := by omega
      have c2' : ¬ (fr.length : Int) = 0 := by omega
      have hcond : (qOr (qB (eBin gLtI (eV 3) (eC (.int 1)))) (qOr (qB (eBin (gEqD false) (eCB gLen (eCons (eV 9) (eNil))) (eC (.int 0)))) (qAnd (qB (eBin gLtI (eV 4) (eC (.int 2)))) (qAnd (qB (eBin gGtI (eCB gLen (eCons (eV 2) (eNil))) (eC (.int 0)))) (qB (eBin (gEqD false) (eBin gModI (eV 6) (eC (.int 5))) (eC (.int 4)))))))) [some L, some (.int N), some (rowD al), some (.int d), some (.int narrow), some (.int at_), some (.int dr), some (.int ot), some (rowD ln), some (.ref 0), none, none, none, none, none, none] [.lst (fr.map D.int)] = some (.ok false, [.lst (fr.map D.int)]) := by
        have e9 := hfre [.lst (fr.map D.int)] rfl
        have e8 : gEqD false [.lst (fr.map D.int)] (.int fr.length) (.int 0) = some (.bl false) := by rw [DL.eq_int, decide_eq_false c2']; rfl
        have e7 : gLen [.lst (fr.map D.int)] [rowD al] = some (.int al.length) := by rw [len_tup, List.length_map]
        by_cases k1 : narrow < 2
        · by_cases k2 : 0 < al.length
          · have k3 : ¬ dr % 5 = 4 := fun q => c3 ⟨k1, k2, q⟩
            have e6 : gGtI [.lst (fr.map D.int)] (.int al.length) (.int 0) = some (.bl true) := by rw [DL.gt_int, decide_eq_true (by omega)]
            generalize ((fr.length : Nat) : Int) = F1 at *
            generalize ((al.length : Nat) : Int) = A1 at *
            simp [-len_tup, -DL.gt_int, decide_eq_false c1', e9, e8, k1, e7, e6, hmo5, k3]
          · have e6 : gGtI [.lst (fr.map D.int)] (.int al.length) (.int 0) = some (.bl false) := by rw [DL.gt_int, decide_eq_false (by omega)]
            generalize ((fr.length : Nat) : Int) = F1 at *
            generalize ((al.length : Nat) : Int) = A1 at *
            simp [-len_tup, -DL.gt_int, decide_eq_false c1', e9, e8, k1, e7, e6]
        · generalize ((fr.length : Nat) : Int) = F1 at *
          simp [decide_eq_false c1', e9, e8, k1]
      rw [sSeq_of (sIf_f hcond rfl)]
      clear hcond
      -- the name
      have hp1 : 0 ≤ (dr + ot) % (fr.length : Int) := Int.emod_nonneg _ (by omega)
      have hp2 : (dr + ot) % (fr.length : Int) < fr.length := Int.emod_lt_of_pos _ (by omega)
      have hm3 : ∀ μ, gModI μ (.int (dr + ot)) (.int fr.length) = some (.int ((dr + ot) % fr.length)) := fun μ => mod_int (by omega)
      have hfx : ∀ μ : Mem, μ[0]? = some (.lst (fr.map D.int)) → gIx μ (.ref 0) (.int ((dr + ot) % fr.length)) = some (.int (fr.getD ((dr + ot) % (fr.length : Int)).toNat 0)) := fun μ q => ix_int (.inr (by simp [q])) hp1 hp2
      have hnm : fr.getD ((dr + ot) % (fr.length : Int)).toNat 0 ∈ fr := by
        have hb : ((dr + ot) % (fr.length : Int)).toNat < fr.length := by omega
        rw [List.getD_eq_getElem?_getD, List.getElem?_eq_getElem hb]
        exact List.getElem_mem hb
      generalize fr.getD ((dr + ot) % (fr.length : Int)).toNat 0 = nm at hfx hnm
      obtain ⟨n1, n2, n3⟩ := hfrm nm hnm
      have e9 := hfre [.lst (fr.map D.int)] rfl
      have e10 := hfx [.lst (fr.map D.int)] rfl
      have e11 := hm3 [.lst (fr.map D.int)]
      rw [sSeq_of (sd1 := [some L, some (.int N), some (rowD al), some (.int d), some (.int narrow), some (.int at_), some (.int dr), some (.int ot), some (rowD ln), some (.ref 0), some (.int nm), none, none, none, none, none]) (μ1 := [.lst (fr.map D.int)]) (by
        generalize (dr + ot) % (fr.length : Int) = I1 at *
        generalize ((fr.length : Nat) : Int) = F1 at *
        simp [-eOwn_e, eOwn_n, e9, e10, e11])]
      -- the two rows
      have hadd : ∀ (μ : Mem) (v : Int), gAdd μ (.new (ln.map wd)) (.new [.tup [.int nm, .int v]]) = some (.new ((ln ++ [(nm, v)]).map wd)) := fun μ v => by
        rw [add_nn (by rw [List.length_map]; simp; omega)]
        simp
      have hsort : ∀ (μ : Mem) (v : Int), gSort μ [.new ((ln ++ [(nm, v)]).map wd)] = some (.new ((srt (ln ++ [(nm, v)])).map wd)) := fun μ v => sort_wds (μ := μ) (x := .new ((ln ++ [(nm, v)]).map wd)) (ln ++ [(nm, v)]) rfl
      have hR1 := hlnR.add n3 n1 n2 (.inr rfl : (1 : Int) = 0 ∨ (1 : Int) = 1)
      have hR0 := hlnR.add n3 n1 n2 (.inl rfl : (0 : Int) = 0 ∨ (0 : Int) = 1)
      have hm1' : ∀ a, a ∈ srt (ln ++ [(nm, 1)]) → a ∈ ln ++ [(nm, 1)] := fun a ha => srt_mem.mp ha
      have hm0' : ∀ a, a ∈ srt (ln ++ [(nm, 0)]) → a ∈ ln ++ [(nm, 0)] := fun a ha => srt_mem.mp ha
      have hs1 := hsort [.lst (fr.map D.int)] 1
      have hs0 := hsort [.lst (fr.map D.int)] 0
      have ha1 := hadd [.lst (fr.map D.int)] 1
      have ha0 := hadd [.lst (fr.map D.int)] 0
      have hcomp : ∀ (sd : Sl), sd[8]? = some (some (rowD ln)) → sd.length = 16 → _law_grow_c2 (m__law_grow m) sd [.lst (fr.map D.int)] = some (.ok (.new (ln.map wd)), [.lst (fr.map D.int)]) := fun sd q ql => by
        unfold _law_grow_c2
        refine eLc_all (chk := fun _ => True) ln wd wd (by simp [q]) rfl (by omega) trivial ?_
        intro a ha
        refine ⟨_, rfl, ?_, rfl⟩
        simp [wipeD, ql]
      have hcomp1 : _law_grow_c1 (m__law_grow m) = _law_grow_c2 (m__law_grow m) := rfl
      generalize srt (ln ++ [(nm, 1)]) = less at *
      generalize srt (ln ++ [(nm, 0)]) = more at *
      rw [sSeq_of (sd1 := [some L, some (.int N), some (rowD al), some (.int d), some (.int narrow), some (.int at_), some (.int dr), some (.int ot), some (rowD ln), some (.ref 0), some (.int nm), some (rowD less), none, none, none, none]) (μ1 := [.lst (fr.map D.int)]) (by simp [-List.map_append, hcomp, ha1, hs1])]
      rw [hcomp1]
      rw [sSeq_of (sd1 := [some L, some (.int N), some (rowD al), some (.int d), some (.int narrow), some (.int at_), some (.int dr), some (.int ot), some (rowD ln), some (.ref 0), some (.int nm), some (rowD less), some (rowD more), none, none, none]) (μ1 := [.lst (fr.map D.int)]) (by simp [-List.map_append, hcomp, ha0, hs0])]
      -- the two sides
      obtain ⟨dl, hdl⟩ : ∃ dl : Nat, dl = if 0 < narrow ∧ ot % 2 = 1 then 0 else d - 1 := ⟨_, rfl⟩
      obtain ⟨dR, hdR⟩ : ∃ dR : Nat, dR = if 0 < narrow ∧ ot % 2 = 0 then 0 else d - 1 := ⟨_, rfl⟩
      have hdl1 : dl ≤ d - 1 := by rw [hdl]; split <;> omega
      have hdR1 : dR ≤ d - 1 := by rw [hdR]; split <;> omega
      have hbb : bd narrow dl + bd narrow dR ≤ bd narrow d := by
        unfold bd
        by_cases c : 0 < narrow
        · rw [if_pos c, if_pos c, if_pos c]
          have ho : ot % 2 = 1 ∨ ot % 2 = 0 := by omega
          rcases ho with ho | ho
          · have : dl = 0 := by rw [hdl, if_pos ⟨c, ho⟩]
            omega
          · have : dR = 0 := by rw [hdR, if_pos ⟨c, ho⟩]
            omega
        · rw [if_neg c, if_neg c, if_neg c]
          have q1 : dl = d - 1 := by rw [hdl, if_neg (fun q => c q.1)]
          have q2 : dR = d - 1 := by rw [hdR, if_neg (fun q => c q.1)]
          rw [q1, q2]
          have q3 : d = (d - 1) + 1 := by omega
          conv => rhs; rw [q3, Nat.pow_succ]
          omega
      have hmo2 : ∀ μ, gModI μ (.int ot) (.int 2) = some (.int (ot % 2)) := fun μ => mod_int (by decide)
      have hE1 : ∀ (sd : Sl), sd[4]? = some (some (.int narrow)) → sd[7]? = some (some (.int ot)) → sd[3]? = some (some (.int d)) → eIf (qAnd (qB (eBin gGtI (eV 4) (eC (.int 0)))) (qB (eBin (gEqD false) (eBin gModI (eV 7) (eC (.int 2))) (eC (.int 1))))) (eC (.int 0)) (eBin gSubI (eV 3) (eC (.int 1))) sd [.lst (fr.map D.int)] = some (.ok (.int dl), [.lst (fr.map D.int)]) := fun sd q4 q7 q3 => by
        rw [hdl]
        by_cases k1 : narrow > 0
        · by_cases k2 : ot % 2 = 1
          · rw [if_pos ⟨k1, k2⟩]
            simp [q4, q7, q3, k1, hmo2, k2]
          · rw [if_neg (fun q => k2 q.2)]
            have : ((d - 1 : Nat) : Int) = (d : Int) - 1 := by omega
            rw [this]
            simp [q4, q7, q3, k1, hmo2, k2]
        · rw [if_neg (fun q => k1 q.1)]
          have : ((d - 1 : Nat) : Int) = (d : Int) - 1 := by omega
          rw [this]
          simp [q4, q7, q3, k1]
      have hE2 : ∀ (sd : Sl), sd[4]? = some (some (.int narrow)) → sd[7]? = some (some (.int ot)) → sd[3]? = some (some (.int d)) → eIf (qAnd (qB (eBin gGtI (eV 4) (eC (.int 0)))) (qB (eBin (gEqD false) (eBin gModI (eV 7) (eC (.int 2))) (eC (.int 0))))) (eC (.int 0)) (eBin gSubI (eV 3) (eC (.int 1))) sd [.lst (fr.map D.int)] = some (.ok (.int dR), [.lst (fr.map D.int)]) := fun sd q4 q7 q3 => by
        rw [hdR]
        by_cases k1 : narrow > 0
        · by_cases k2 : ot % 2 = 0
          · rw [if_pos ⟨k1, k2⟩]
            simp [q4, q7, q3, k1, hmo2, k2]
          · rw [if_neg (fun q => k2 q.2)]
            have : ((d - 1 : Nat) : Int) = (d : Int) - 1 := by omega
            rw [this]
            simp [q4, q7, q3, k1, hmo2, k2]
        · rw [if_neg (fun q => k1 q.1)]
          have : ((d - 1 : Nat) : Int) = (d : Int) - 1 := by omega
          rw [this]
          simp [q4, q7, q3, k1]
      have hbR := bd_pos narrow dR
      obtain ⟨tl, a1, f1, g1, p1, k1, b1⟩ := ih dl less (at_ + 1) hR1 (by omega) (by omega) (by omega)
      obtain ⟨tr, a2, f2, g2, p2, k2, b2⟩ := ih dR more a1 hR0 (by omega) (by have := cnt_pos tl; omega) (by omega)
      have hcall1 : eCall (m__law_grow m) 6 (eCons (eV 0) (eCons (eV 1) (eCons (eV 11) (eCons (eIf (qAnd (qB (eBin gGtI (eV 4) (eC (.int 0)))) (qB (eBin (gEqD false) (eBin gModI (eV 7) (eC (.int 2))) (eC (.int 1))))) (eC (.int 0)) (eBin gSubI (eV 3) (eC (.int 1)))) (eCons (eV 4) (eCons (eBin gAdd (eV 5) (eC (.int 1))) (eNil))))))) [some L, some (.int N), some (rowD al), some (.int d), some (.int narrow), some (.int at_), some (.int dr), some (.int ot), some (rowD ln), some (.ref 0), some (.int nm), some (rowD less), some (rowD more), none, none, none] [.lst (fr.map D.int)] = some (.ok (.tup [rD tl, .int a1]), [.lst (fr.map D.int)]) := by
        have q := hE1 [some L, some (.int N), some (rowD al), some (.int d), some (.int narrow), some (.int at_), some (.int dr), some (.int ot), some (rowD ln), some (.ref 0), some (.int nm), some (rowD less), some (rowD more), none, none, none] rfl rfl rfl
        generalize eIf (qAnd (qB (eBin gGtI (eV 4) (eC (.int 0)))) (qB (eBin (gEqD false) (eBin gModI (eV 7) (eC (.int 2))) (eC (.int 1))))) (eC (.int 0)) (eBin gSubI (eV 3) (eC (.int 1))) = EI at *
        simp [-eV_e, eV_n, hLn, hLa, q, f1]
      have hcall2 : eCall (m__law_grow m) 6 (eCons (eV 0) (eCons (eV 1) (eCons (eV 12) (eCons (eIf (qAnd (qB (eBin gGtI (eV 4) (eC (.int 0)))) (qB (eBin (gEqD false) (eBin gModI (eV 7) (eC (.int 2))) (eC (.int 0))))) (eC (.int 0)) (eBin gSubI (eV 3) (eC (.int 1)))) (eCons (eV 4) (eCons (eBin gIx (eV 13) (eC (.int 1))) (eNil))))))) [some L, some (.int N), some (rowD al), some (.int d), some (.int narrow), some (.int at_), some (.int dr), some (.int ot), some (rowD ln), some (.ref 0), some (.int nm), some (rowD less), some (rowD more), some (.tup [rD tl, .int a1]), none, none] [.lst (fr.map D.int)] = some (.ok (.tup [rD tr, .int a2]), [.lst (fr.map D.int)]) := by
        have q := hE2 [some L, some (.int N), some (rowD al), some (.int d), some (.int narrow), some (.int at_), some (.int dr), some (.int ot), some (rowD ln), some (.ref 0), some (.int nm), some (rowD less), some (rowD more), some (.tup [rD tl, .int a1]), none, none] rfl rfl rfl
        have i1 : gIx [.lst (fr.map D.int)] (.tup [rD tl, .int a1]) (.int 1) = some (.int a1) := ix_k 1 rfl rfl rfl
        generalize eIf (qAnd (qB (eBin gGtI (eV 4) (eC (.int 0)))) (qB (eBin (gEqD false) (eBin gModI (eV 7) (eC (.int 2))) (eC (.int 0))))) (eC (.int 0)) (eBin gSubI (eV 3) (eC (.int 1))) = EI at *
        simp [-eV_e, eV_n, hLn, hLa, q, f2, i1]
      rw [sSeq_of (sd1 := [some L, some (.int N), some (rowD al), some (.int d), some (.int narrow), some (.int at_), some (.int dr), some (.int ot), some (rowD ln), some (.ref 0), some (.int nm), some (rowD less), some (rowD more), some (.tup [rD tl, .int a1]), none, none]) (μ1 := [.lst (fr.map D.int)]) (by rw [sAsg_e, eOwn_n, hcall1]; simp)]
      rw [sSeq_of (sd1 := [some L, some (.int N), some (rowD al), some (.int d), some (.int narrow), some (.int at_), some (.int dr), some (.int ot), some (rowD ln), some (.ref 0), some (.int nm), some (rowD less), some (rowD more), some (.tup [rD tl, .int a1]), some (.tup [rD tr, .int a2]), none]) (μ1 := [.lst (fr.map D.int)]) (by rw [sAsg_e, eOwn_n, hcall2]; simp)]
      refine ⟨.f nm ln tl tr, a2, ?_, ⟨fun a ha => hln.subset ha, hlnR, n1, n2, n3, g1.mono hm1', g2.mono hm0'⟩, by simp only [dp]; omega, by simp only [cnt]; omega, ?_⟩
      · have i0 : gIx [.lst (fr.map D.int)] (.tup [rD tl, .int a1]) (.int 0) = some (rD tl) := ix_k 0 rfl rfl (tr_nn tl)
        have i1 : gIx [.lst (fr.map D.int)] (.tup [rD tr, .int a2]) (.int 0) = some (rD tr) := ix_k 0 rfl rfl (tr_nn tr)
        have i2 : gIx [.lst (fr.map D.int)] (.tup [rD tr, .int a2]) (.int 1) = some (.int a2) := ix_k 1 rfl rfl rfl
        have ho : outD [.lst (fr.map D.int)] (.tup [.tup [.str "from", .int nm, rowD ln, rD tl, rD tr], .int a2]) = some (.tup [.tup [.str "from", .int nm, rowD ln, rD tl, rD tr], .int a2]) := out_tup (by
          have h := rD_plain (.f nm ln tl tr)
          have h : plainL [.str "from", .int nm, rowD ln, rD tl, rD tr] = true := h
          show (plainL [.str "from", .int nm, rowD ln, rD tl, rD tr] && (true && true)) = true
          rw [h]; rfl)
        have ht : rD (.f nm ln tl tr) = .tup [.str "from", .int nm, rowD ln, rD tl, rD tr] := rfl
        rw [ht]
        simp [i0, i1, i2, ho]
      · simp only [cnt]
        omega
end LK
set_option Elab.async false
set_option linter.all false
set_option maxRecDepth 100000
set_option maxHeartbeats 8000000
namespace LK
open PySem PySem.Spec PyProof.Rows L2 DL
/-! ### leaves by their index -/
def Ix (ws : List Rw) : Tr Rw → Tr Int → Prop
  | .w row, .w i => 0 ≤ i ∧ i < ws.length ∧ ws.getD i.toNat [] = row
  | .f n line l r, .f n' line' l' r' => n = n' ∧ line = line' ∧ Ix ws l l' ∧ Ix ws r r'
  | _, _ => False
theorem index_row (μ : Mem) (ws : List Rw) (row : Rw) (h : row ∈ ws) : ∃ j : Nat, gIndex μ (.lst (ws.map rowD)) [rowD row] = some (.int j) ∧ ws[j]? = some row := index_en (α := Rw) (y := .lst (ws.map rowD)) row ws (toPm_lst (α := Rw) μ ws) h
theorem indexed_eq (ws : List Rw) : ∀ (m : Nat) (t : Tr Rw), dp t < m → (∀ r ∈ lvs t, r ∈ ws) → ∃ p : Tr Int, m__law_indexed m [rD t, .lst (ws.map rowD)] = some (.ok (pD p)) ∧ Ix ws t p := by
  intro m
  induction m with
  | zero => intro t h; omega
  | succ m ih =>
    intro t hd hm
    have hWi := fun μ row h => index_row μ ws row h
    have hWa : ∀ μ, argD μ (.lst (ws.map rowD)) = some (.lst (ws.map rowD)) := fun μ => arg_ws μ ws
    have hWl : ∀ μ, isLst μ (.lst (ws.map rowD)) = some (ws.map rowD) := fun μ => rfl
    unfold m__law_indexed b__law_indexed
    cases t with
    | w row =>
      obtain ⟨j, e1, e2⟩ := hWi [] row (hm row (by simp [lvs]))
      generalize hW : D.lst (ws.map rowD) = W at *
      have hWn : notNew W = true := by rw [← hW]; rfl
      obtain ⟨h0, h1⟩ := w_ix [] rowD row rfl
      generalize hP : rD (.w row) = P at *
      rw [show trD rowD (.w row) = P from hP] at h0 h1
      have hPn : notNew P = true := by rw [← hP]; rfl
      have ho : outD [] (.tup [.str "wish", .int j]) = some (.tup [.str "wish", .int j]) := rfl
      refine ⟨.w j, ?_, by omega, ?_, ?_⟩
      · simp [-eV_e, eV_n, hPn, hWn, h0, h1, str_eqT, hWl, e1, ho, trD]
      · have := (List.getElem?_eq_some_iff.mp e2).1
        omega
      · rw [List.getD_eq_getElem?_getD, Int.toNat_natCast, e2]
        rfl
    | f n line l r =>
      simp only [dp] at hd
      simp only [lvs, List.mem_append] at hm
      obtain ⟨pl, e1, e2⟩ := ih l (by omega) fun x hx => hm x (.inl hx)
      obtain ⟨pr, e3, e4⟩ := ih r (by omega) fun x hx => hm x (.inr hx)
      generalize hW : D.lst (ws.map rowD) = W at *
      have hWn : notNew W = true := by rw [← hW]; rfl
      obtain ⟨h0, h1, h2, h3, h4⟩ := f_ix [] rowD n line l r
      generalize hP : rD (.f n line l r) = P at *
      rw [show trD rowD (.f n line l r) = P from hP] at h0 h1 h2 h3 h4
      have hPn : notNew P = true := by rw [← hP]; rfl
      have hal : argD [] (rD l) = some (rD l) := arg_of (rD_ok l)
      have har : argD [] (rD r) = some (rD r) := arg_of (rD_ok r)
      have ho : outD [] (.tup [.str "from", .int n, rowD line, pD pl, pD pr]) = some (.tup [.str "from", .int n, rowD line, pD pl, pD pr]) := out_tup (by
        have h : DL.plain (pD (.f n line pl pr)) = true := tr_plain (fun _ => rfl) _
        exact h)
      refine ⟨.f n line pl pr, ?_, rfl, rfl, e2, e4⟩
      have ht : pD (.f n line pl pr) = .tup [.str "from", .int n, rowD line, pD pl, pD pr] := rfl
      rw [ht]
      simp [-eV_e, eV_n, hPn, hWn, h0, h1, h2, h3, h4, str_eqF, hal, har, hWa, e1, e3, ho]
theorem Ix.dp {ws : List Rw} : ∀ {t : Tr Rw} {p : Tr Int}, Ix ws t p → LK.dp p = LK.dp t ∧ cnt p = cnt t
  | .w _, .w _, _ => ⟨rfl, rfl⟩
  | .f _ _ l r, .f _ _ l' r', ⟨_, _, a, b⟩ => by
    obtain ⟨a1, a2⟩ := Ix.dp a
    obtain ⟨b1, b2⟩ := Ix.dp b
    exact ⟨by simp only [LK.dp]; rw [a1, b1], by simp only [cnt]; rw [a2, b2]⟩
theorem right_none {N : Int} {ws : List Rw} : ∀ {t : Tr Rw} {p : Tr Int} {al : Rw}, Gd N al t → Ix ws t p → (∀ pl, nf N ws p pl = none) ∧ ∀ a ∈ lineOf ws p, a ∈ al
  | .w row, .w i, al, ⟨g, _⟩, ⟨a, b, c⟩ => by
    refine ⟨fun pl => by unfold nf; rw [if_pos ⟨a, b⟩], fun x hx => ?_⟩
    have hx : x ∈ ws.getD i.toNat [] := hx
    rw [c] at hx
    exact g x hx
  | .f n line l r, .f n' line' l' r', al, ⟨g1, g2, g3, g4, g5, g6, g7⟩, ⟨e1, e2, a, b⟩ => by
    subst e1 e2
    obtain ⟨a1, a2⟩ := right_none g6 a
    obtain ⟨b1, b2⟩ := right_none g7 b
    refine ⟨fun pl => ?_, fun x hx => g1 x hx⟩
    have s1 : side ws line n 1 l' = true := List.all_eq_true.mpr fun x hx => decide_eq_true (a2 x hx)
    have s2 : side ws line n 0 r' = true := List.all_eq_true.mpr fun x hx => decide_eq_true (b2 x hx)
    unfold nf
    rw [a1, b1]
    dsimp only
    rw [if_neg (by rw [g2.rgt]; decide), if_neg (by omega), if_neg g5, if_neg (by rw [s1]; decide), if_neg (by rw [s2]; decide)]
theorem right_ltf {N : Int} {ws : List Rw} {t : Tr Rw} {p : Tr Int} (g : Gd N [] t) (x : Ix ws t p) : ltf N ws p = none := by
  obtain ⟨h1, h2⟩ := right_none g x
  unfold ltf
  rw [h1]
  dsimp only
  rw [if_pos (List.eq_nil_iff_forall_not_mem.mpr fun a ha => by cases h2 a ha)]
/-- lines of at most k words -/
def LB (k : Nat) : Tr Int → Prop
  | .w _ => True
  | .f _ line l r => line.length ≤ k ∧ LB k l ∧ LB k r
theorem LB.mono {k k' : Nat} (h : k ≤ k') : ∀ {p : Tr Int}, LB k p → LB k' p
  | .w _, _ => trivial
  | .f _ _ _ _, ⟨a, b, c⟩ => ⟨Nat.le_trans a h, b.mono h, c.mono h⟩
theorem LB.sz {k : Nat} (h : k ≤ 1000) : ∀ {p : Tr Int}, LB k p → Sz p
  | .w _, _ => trivial
  | .f _ _ _ _, ⟨a, b, c⟩ => ⟨Nat.le_trans a h, b.sz h, c.sz h⟩
theorem Ix.lb {N : Int} {ws : List Rw} (hN : N ≤ 40) : ∀ {t : Tr Rw} {p : Tr Int} {al : Rw}, Gd N al t → Ix ws t p → LB 40 p
  | .w _, .w _, _, _, _ => trivial
  | .f n line l r, .f _ _ l' r', al, ⟨_, g2, _, _, _, g6, g7⟩, ⟨_, e2, a, b⟩ => by
    subst e2
    exact ⟨by have := g2.len; omega, Ix.lb hN g6 a, Ix.lb hN g7 b⟩
theorem out_pD (μ : Mem) (q : Tr Int) : outD μ (pD q) = some (pD q) := by
  have hp : DL.plain (pD q) = true := tr_plain (fun _ => rfl) q
  cases q with
  | w i => exact out_tup (ds := [.str "wish", .int i]) hp
  | f n line l r => exact out_tup (ds := [.str "from", .int n, rowD line, pD l, pD r]) hp
/-! ### places -/
def plc : Tr Int → List Int → List (List Int)
  | .w _, pl => [pl]
  | .f _ _ l r, pl => plc l (pl ++ [0]) ++ plc r (pl ++ [1]) ++ [pl]
theorem plc_len : ∀ (p : Tr Int) (pl : List Int), (plc p pl).length + 1 = 2 * cnt p
  | .w _, _ => rfl
  | .f _ _ l r, pl => by
    have a := plc_len l (pl ++ [0])
    have b := plc_len r (pl ++ [1])
    simp only [plc, cnt, List.length_append, List.length_singleton]
    omega
def nodeAt : Tr Int → List Int → Option (Tr Int)
  | p, [] => some p
  | .w _, _ :: _ => none
  | .f _ _ l r, k :: ks => if k = 0 then nodeAt l ks else if k = 1 then nodeAt r ks else none
theorem plc_at : ∀ {p : Tr Int} {pl q : List Int}, q ∈ plc p pl → ∃ s, q = pl ++ s ∧ (nodeAt p s).isSome = true
  | .w _, pl, q, h => by
    have h : q = pl := by simpa [plc] using h
    exact ⟨[], by rw [h, List.append_nil], rfl⟩
  | .f n line l r, pl, q, h => by
    simp only [plc, List.mem_append, List.mem_singleton] at h
    rcases h with (h | h) | h
    · obtain ⟨s, e1, e2⟩ := plc_at h
      exact ⟨0 :: s, by rw [e1, List.append_assoc]; rfl, by unfold nodeAt; rw [if_pos rfl]; exact e2⟩
    · obtain ⟨s, e1, e2⟩ := plc_at h
      exact ⟨1 :: s, by rw [e1, List.append_assoc]; rfl, by unfold nodeAt; rw [if_neg (by decide), if_pos rfl]; exact e2⟩
    · exact ⟨[], by rw [h, List.append_nil], by unfold nodeAt; rfl⟩
theorem node_nil (p : Tr Int) : nodeAt p [] = some p := by cases p <;> rfl
theorem ok_pls (qs : List (List Int)) : okAL (qs.map plD) = true := okAL_map (e := plD) (fun l => ok_int l) qs
theorem pl_pls (qs : List (List Int)) : plainL (qs.map plD) = true := plainL_map (e := plD) (fun l => pl_int l) qs
theorem places_eq : ∀ (m : Nat) (p : Tr Int) (pl : List Int), dp p < m → pl.length + dp p ≤ 1000 → cnt p ≤ 20000 → m__law_places m [pD p, plD pl] = some (.ok (.new ((plc p pl).map plD))) := by
  intro m
  induction m with
  | zero => intro p pl h; omega
  | succ m ih =>
    intro p pl hd hl hc
    have hout : ∀ (μ : Mem) (qs : List (List Int)), outD μ (.new (qs.map plD)) = some (.new (qs.map plD)) := fun μ qs => if_pos (pl_pls qs)
    unfold m__law_places b__law_places
    cases p with
    | w i =>
      obtain ⟨h0, h1⟩ := w_ix [] D.int i rfl
      simp only [trD] at h0 h1
      have ho := hout [] [pl]
      simp only [List.map_cons, List.map_nil] at ho
      simp [trD, h0, str_eqT, plc, ho]
    | f n line l r =>
      simp only [dp] at hd hl
      simp only [cnt] at hc
      have ihl := ih l (pl ++ [0]) (by omega) (by simp; omega) (by omega)
      have ihr := ih r (pl ++ [1]) (by omega) (by simp; omega) (by omega)
      have l1 := plc_len l (pl ++ [0])
      have l2 := plc_len r (pl ++ [1])
      obtain ⟨h0, h1, h2, h3, h4⟩ := f_ix [] D.int n line l r
      generalize hP : pD (.f n line l r) = P at h0 h1 h2 h3 h4
      rw [show trD D.int (.f n line l r) = P from hP] at h0 h1 h2 h3 h4
      have hPn : notNew P = true := by rw [← hP]; rfl
      have p0 := pl_add [] pl 0 (by omega)
      have p1 := pl_add [] pl 1 (by omega)
      have a1 : gAdd [] (.new ((plc l (pl ++ [0])).map plD)) (.new ((plc r (pl ++ [1])).map plD)) = some (.new ((plc l (pl ++ [0]) ++ plc r (pl ++ [1])).map plD)) := by
        rw [add_nn (by rw [List.length_map, List.length_map]; omega), List.map_append]
      have a2 : gAdd [] (.new ((plc l (pl ++ [0]) ++ plc r (pl ++ [1])).map plD)) (.new [plD pl]) = some (.new ((plc l (pl ++ [0]) ++ plc r (pl ++ [1]) ++ [pl]).map plD)) := by
        rw [add_nn (by rw [List.length_map, List.length_append]; simp; omega)]
        simp
      have ho := hout [] (plc l (pl ++ [0]) ++ plc r (pl ++ [1]) ++ [pl])
      simp [-List.map_append, -List.append_assoc, -eV_e, eV_n, hPn, h0, str_eqF, h3, h4, tr_nn, p0, p1, ihl, ihr, a1, a2, ho, plc]
theorem node_eq : ∀ (s : List Int) (p q : Tr Int), nodeAt p s = some q → m__law_node [pD p, plD s] = some (.ok (pD q)) := by
  intro s p q h
  have key : ∀ (l : List Int) (c : Tr Int) (o : Option D), nodeAt c l = some q → ∃ o', loopF (fun _ => True) (gD 3) _law_node_b1 (l.map D.int) [some (pD p), some (plD s), some (pD c), o] [] = some (.nx, [some (pD p), some (plD s), some (pD q), o'], []) := by
    intro l
    induction l with
    | nil =>
      intro c o h
      rw [node_nil] at h
      cases h
      exact ⟨o, rfl⟩
    | cons k l ih =>
      intro c o h
      cases c with
      | w i => cases h
      | f n line a b =>
        have hx : ∃ d, gIx [] (pD (.f n line a b)) (.int (3 + k)) = some (pD d) ∧ nodeAt d l = some q := by
          unfold nodeAt at h
          obtain ⟨_, _, _, h3, h4⟩ := f_ix [] D.int n line a b
          split at h
          · rename_i e
            subst e
            exact ⟨a, h3, h⟩
          · split at h
            · rename_i e
              subst e
              exact ⟨b, h4, h⟩
            · cases h
        obtain ⟨d, hx, hd⟩ := hx
        have hb : _law_node_b1 [some (pD p), some (plD s), some (pD (.f n line a b)), some (.int k)] [] = some (.nx, [some (pD p), some (plD s), some (pD d), some (.int k)], []) := by
          have h1 : notNew (pD (.f n line a b)) = true := tr_nn (e := D.int) (.f n line a b)
          unfold _law_node_b1
          generalize pD (.f n line a b) = C at *
          simp [-eV_e, eV_n, -eOwn_e, eOwn_n, -gD_e, gD_n, h1, hx, tr_nn]
        obtain ⟨o', e⟩ := ih d (some (.int k)) hd
        exact ⟨o', (loop_go (sd1 := [some (pD p), some (plD s), some (pD (.f n line a b)), some (.int k)]) (μ1 := []) rfl hb trivial).trans e⟩
  obtain ⟨o', e⟩ := key s p none h
  have hloop : _law_node_l1 [some (pD p), some (plD s), some (pD p), none] [] = some (.nx, [some (pD p), some (plD s), some (pD q), o'], []) := by
    unfold _law_node_l1
    rw [sFor_of (ds := s.map D.int) (chk := fun _ => True) (by simp)]
    exact e
  have ho := out_pD [] q
  unfold m__law_node b__law_node
  simp [-eV_e, eV_n, -eOwn_e, eOwn_n, -gD_e, gD_n, tr_nn, hloop, ho]
def putAt : Tr Int → List Int → Tr Int → Tr Int
  | _, [], q => q
  | .w i, _ :: _, _ => .w i
  | .f n line l r, k :: ks, q => if k = 0 then .f n line (putAt l ks q) r else .f n line l (putAt r ks q)
theorem put_eq : ∀ (m : Nat) (s : List Int) (p q : Tr Int), (nodeAt p s).isSome = true → s.length < m → m__law_put m [pD p, plD s, pD q] = some (.ok (pD (putAt p s q))) := by
  intro m
  induction m with
  | zero => intro s p q _ h; omega
  | succ m ih =>
    intro s p q h hl
    have hop := out_pD
    unfold m__law_put b__law_put
    cases s with
    | nil =>
      have e : putAt p [] q = q := by cases p <;> rfl
      rw [e]
      simp [-eV_e, eV_n, tr_nn, hop]
    | cons k ks =>
      cases p with
      | w i => cases h
      | f n line l r =>
        obtain ⟨h0, h1, h2, h3, h4⟩ := f_ix [] D.int n line l r
        have hk : (k = 0 ∧ (nodeAt l ks).isSome = true) ∨ (k = 1 ∧ (nodeAt r ks).isSome = true) := by
          unfold nodeAt at h
          split at h
          · exact .inl ⟨‹_›, h⟩
          · split at h
            · exact .inr ⟨‹_›, h⟩
            · cases h
        have hlen : ¬ ((ks.length : Int) + 1 = 0) := by omega
        have hc : gSl [] (plD (k :: ks)) (some 1) none = some (plD ks) := sl_tup1 [] (.int k) (ks.map D.int)
        have hc0 : gIx [] (plD (k :: ks)) (.int 0) = some (.int k) := ix_k 0 rfl rfl rfl
        have hgl : gLen [] [plD (k :: ks)] = some (.int ((ks.length : Int) + 1)) := by rw [len_tup, List.length_map]; rfl
        have he0 : gEqD false [] (.int ((ks.length : Int) + 1)) (.int 0) = some (.bl false) := by rw [DL.eq_int, decide_eq_false hlen]; rfl
        generalize hP : pD (.f n line l r) = P at h0 h1 h2 h3 h4
        rw [show trD D.int (.f n line l r) = P from hP] at h0 h1 h2 h3 h4
        have hPn : notNew P = true := by rw [← hP]; rfl
        generalize hS : plD (k :: ks) = S at *
        have hSn : notNew S = true := by rw [← hS]; rfl
        rw [List.length_cons] at hl
        generalize (ks.length : Int) + 1 = KL at *
        rcases hk with ⟨rfl, hn⟩ | ⟨rfl, hn⟩
        · have e := ih ks l q hn (by omega)
          have ho := hop [] (putAt (.f n line l r) (0 :: ks) q)
          have hput : pD (putAt (.f n line l r) (0 :: ks) q) = .tup [.str "from", .int n, rowD line, pD (putAt l ks q), pD r] := by rw [putAt, if_pos rfl]; rfl
          rw [hput] at ho ⊢
          simp [-eV_e, eV_n, hPn, hSn, tr_nn, hgl, he0, hc0, h0, h1, h2, h3, h4, hc, e, ho]
        · have e := ih ks r q hn (by omega)
          have ho := hop [] (putAt (.f n line l r) (1 :: ks) q)
          have hput : pD (putAt (.f n line l r) (1 :: ks) q) = .tup [.str "from", .int n, rowD line, pD l, pD (putAt r ks q)] := by rw [putAt, if_neg (by decide)]; rfl
          rw [hput] at ho ⊢
          simp [-eV_e, eV_n, hPn, hSn, tr_nn, hgl, he0, hc0, h0, h1, h2, h3, h4, hc, e, ho]
/-- what a node put in keeps -/
theorem put_keeps {k : Nat} : ∀ {s : List Int} {p q o : Tr Int}, nodeAt p s = some o → dp q ≤ dp o → cnt q ≤ cnt o → LB k p → LB k q → dp (putAt p s q) ≤ dp p ∧ cnt (putAt p s q) ≤ cnt p ∧ LB k (putAt p s q)
  | [], p, q, o, h, h1, h2, _, h4 => by
    rw [node_nil] at h
    cases h
    have e : putAt p [] q = q := by cases p <;> rfl
    rw [e]
    exact ⟨h1, h2, h4⟩
  | _ :: _, .w _, _, _, h, _, _, _, _ => by cases h
  | i :: s, .f n line l r, q, o, h, h1, h2, ⟨g1, g2, g3⟩, h4 => by
    unfold nodeAt at h
    split at h
    · rename_i e
      obtain ⟨a, b, c⟩ := put_keeps h h1 h2 g2 h4
      rw [putAt, if_pos e]
      exact ⟨by simp only [dp]; omega, by simp only [cnt]; omega, g1, c, g3⟩
    · rename_i e
      split at h
      · obtain ⟨a, b, c⟩ := put_keeps h h1 h2 g3 h4
        rw [putAt, if_neg e]
        exact ⟨by simp only [dp]; omega, by simp only [cnt]; omega, g1, g2, c⟩
      · cases h
theorem node_keeps {k : Nat} : ∀ {s : List Int} {p o : Tr Int}, nodeAt p s = some o → LB k p → dp o ≤ dp p ∧ cnt o ≤ cnt p ∧ LB k o ∧ s.length ≤ dp p
  | [], p, o, h, g => by
    rw [node_nil] at h
    cases h
    exact ⟨Nat.le_refl _, Nat.le_refl _, g, Nat.zero_le _⟩
  | _ :: _, .w _, _, h, _ => by cases h
  | i :: s, .f n line l r, o, h, ⟨g1, g2, g3⟩ => by
    unfold nodeAt at h
    split at h
    · obtain ⟨a, b, c, d⟩ := node_keeps h g2
      exact ⟨by simp only [dp]; omega, by simp only [cnt]; omega, c, by simp only [dp, List.length_cons]; omega⟩
    · split at h
      · obtain ⟨a, b, c, d⟩ := node_keeps h g3
        exact ⟨by simp only [dp]; omega, by simp only [cnt]; omega, c, by simp only [dp, List.length_cons]; omega⟩
      · cases h
end LK
set_option Elab.async false
set_option linter.all false
set_option maxRecDepth 100000
set_option maxHeartbeats 8000000
namespace LK
open PySem PySem.Spec PyProof.Rows L2 DL
/-! ### a line spoilt -/
theorem cut_row (μ : Mem) (r : Rw) (lo hi : Option Int) : ∃ s : Rw, gSl μ (rowD r) lo hi = some (rowD s) ∧ s.length ≤ r.length := by
  refine ⟨(r.drop (HT.sIx (r.map wd).length 0 lo)).take (HT.sIx (r.map wd).length (r.map wd).length hi - HT.sIx (r.map wd).length 0 lo), ?_, ?_⟩
  · show some (D.tup (DL.cutD (r.map wd) lo hi)) = _
    unfold DL.cutD
    rw [← List.map_drop, ← List.map_take]
  · rw [List.length_take, List.length_drop]
    omega
theorem add_rows (μ : Mem) (r s : Rw) (h : r.length + s.length ≤ 100000) : gAdd μ (rowD r) (rowD s) = some (rowD (r ++ s)) := by
  rw [add_tup (by rw [List.length_map, List.length_map]; exact h), ← List.map_append]
theorem out_row (μ : Mem) (r : Rw) : outD μ (rowD r) = some (rowD r) := out_tup (pl_wd r)
theorem srt_len (r : Rw) : (srt r).length = r.length := (List.mergeSort_perm r leE).length_eq
theorem spoilt_line_eq (N : Nat) (hN : 1 ≤ N) (line : Rw) (hl : line.length ≤ 1000) (draw other : Int) (ho : 0 ≤ other) : ∃ s : Rw, m__law_spoilt_line [.int N, rowD line, .int draw, .int other] = some (.ok (rowD s)) ∧ s.length ≤ 3 * line.length + 2 := by
  have hL : ∀ μ, gLen μ [rowD line] = some (.int line.length) := fun μ => by rw [len_tup, List.length_map]
  have hm1 : ∀ μ, gModI μ (.int other) (.int ((line.length : Int) + 1)) = some (.int (other % ((line.length : Int) + 1))) := fun μ => mod_int (by omega)
  have hm2 : ∀ μ, gModI μ (.int other) (.int N) = some (.int (other % N)) := fun μ => mod_int (by omega)
  have hd1 : ∀ μ, gDivI μ (.int draw) (.int 10) = some (.int (draw / 10)) := fun μ => div_int ⟨by decide, by decide⟩
  have hm3 : ∀ μ, gModI μ (.int (draw / 10)) (.int 6) = some (.int (draw / 10 % 6)) := fun μ => mod_int (by decide)
  have hm5 : ∀ μ, gModI μ (.int other) (.int 5) = some (.int (other % 5)) := fun μ => mod_int (by decide)
  have hd5 : ∀ μ, gDivI μ (.int other) (.int 5) = some (.int (other / 5)) := fun μ => div_int ⟨by decide, by decide⟩
  have hm6 : ∀ μ, gModI μ (.int (other / 5)) (.int 2) = some (.int (other / 5 % 2)) := fun μ => mod_int (by decide)
  have hw6 : 0 ≤ draw / 10 % 6 ∧ draw / 10 % 6 < 6 := ⟨by omega, by omega⟩
  have hw5 : 0 ≤ other % 5 ∧ other % 5 < 5 := ⟨by omega, by omega⟩
  generalize hat : other % ((line.length : Int) + 1) = at_ at hm1
  generalize hwy : draw / 10 % 6 = way at hm3 hw6
  generalize hnm : (1 : Int) + other % N = nm
  have hS : ∀ μ lo hi, ∃ s : Rw, gSl μ (rowD line) lo hi = some (rowD s) ∧ s.length ≤ line.length := fun μ lo hi => cut_row μ line lo hi
  have hLs : ∀ μ, sqAny μ (rowD line) = some (line.map wd) := fun μ => rfl
  have hgl : ∀ μ, gList μ [rowD line] = some (.new (line.map wd)) := fun μ => rfl
  have hor := out_row
  unfold m__law_spoilt_line b__law_spoilt_line
  rw [runF_def]
  simp only [List.map_cons, List.map_nil, List.length_cons, List.length_nil, List.cons_append, List.nil_append, Nat.zero_add, Nat.reduceAdd, Nat.reduceSub, List.reduceReplicate]
  rw [sSeq_of (sd1 := [some (.int N), some (rowD line), some (.int draw), some (.int other), some (.int at_), none, none, none, none]) (μ1 := []) (by
    generalize ((line.length : Nat) : Int) = LL at *
    simp [-len_tup, hL, hm1])]
  rw [sSeq_of (sd1 := [some (.int N), some (rowD line), some (.int draw), some (.int other), some (.int at_), some (.int nm), none, none, none]) (μ1 := []) (by simp [hm2, hnm])]
  rw [sSeq_of (sd1 := [some (.int N), some (rowD line), some (.int draw), some (.int other), some (.int at_), some (.int nm), some (.int way), none, none]) (μ1 := []) (by simp [hd1, hm3])]
  have hcases : way = 0 ∨ way = 1 ∨ way = 2 ∨ way = 3 ∨ way = 4 ∨ way = 5 := by omega
  rcases hcases with rfl | rfl | rfl | rfl | rfl | rfl
  · obtain ⟨a, e1, l1⟩ := hS [] none (some at_)
    obtain ⟨b, e2, l2⟩ := hS [] (some (at_ + 1)) none
    have e3 := add_rows [] a b (by omega)
    have e4 := hor [] (a ++ b)
    refine ⟨a ++ b, ?_, by rw [List.length_append]; omega⟩
    simp [-List.map_append, e1, e2, e3, e4]
  · have hc : _law_spoilt_line_c3 [some (.int N), some (rowD line), some (.int draw), some (.int other), some (.int at_), some (.int nm), some (.int 1), none, none] [] = some (.ok (.new (line.map wd)), []) := by
      unfold _law_spoilt_line_c3
      refine eLc_all (chk := fun _ => True) line wd wd (by simp) rfl (by omega) trivial ?_
      intro a ha
      refine ⟨_, rfl, ?_, rfl⟩
      simp [wipeD]
    have hadd : gAdd [] (.new (line.map wd)) (.new [.tup [.int nm, .int (other / 5 % 2)]]) = some (.new ((line ++ [(nm, other / 5 % 2)]).map wd)) := by
      rw [add_nn (by rw [List.length_map]; simp; omega)]
      simp
    have hsort : gSort [] [.new ((line ++ [(nm, other / 5 % 2)]).map wd)] = some (.new ((srt (line ++ [(nm, other / 5 % 2)])).map wd)) := sort_wds (μ := []) (x := .new ((line ++ [(nm, other / 5 % 2)]).map wd)) _ rfl
    have hlen := srt_len (line ++ [(nm, other / 5 % 2)])
    have e4 := hor [] (srt (line ++ [(nm, other / 5 % 2)]))
    refine ⟨srt (line ++ [(nm, other / 5 % 2)]), ?_, by rw [hlen]; simp; omega⟩
    simp [-List.map_append, hc, hd5, hm6, hadd, hsort, e4]
  · have hc : _law_spoilt_line_c2 [some (.int N), some (rowD line), some (.int draw), some (.int other), some (.int at_), some (.int nm), some (.int 2), none, none] [] = some (.ok (.new (line.reverse.map wd)), []) := by
      unfold _law_spoilt_line_c2
      refine eLc_all (chk := fun _ => True) (ds := (line.map wd).reverse) line.reverse wd wd (by simp [-List.map_reverse, hgl]) (by rw [List.map_reverse]) (by simp; omega) trivial ?_
      intro a ha
      refine ⟨_, rfl, ?_, rfl⟩
      simp [wipeD]
    have e4 := hor [] line.reverse
    refine ⟨line.reverse, ?_, by simp; omega⟩
    simp [-List.map_reverse, hc, e4]
  · obtain ⟨a, e1, l1⟩ := hS [] none (some at_)
    obtain ⟨b, e2, l2⟩ := cut_row [] a (some ((a.length : Int) - 1)) none
    obtain ⟨c, e3, l3⟩ := hS [] (some at_) none
    have ea : gLen [] [rowD a] = some (.int a.length) := by rw [len_tup, List.length_map]
    have e4 := add_rows [] a b (by omega)
    have e5 := add_rows [] (a ++ b) c (by rw [List.length_append]; omega)
    have e6 := hor [] (a ++ b ++ c)
    refine ⟨a ++ b ++ c, ?_, by simp; omega⟩
    generalize ((a.length : Nat) : Int) = AL at *
    simp [-len_tup, -List.map_append, -List.append_assoc, e1, ea, e2, e3, e4, e5, e6]
  · obtain ⟨a, e1, l1⟩ := hS [] none (some at_)
    obtain ⟨c, e3, l3⟩ := hS [] (some at_) none
    have hbad : ∃ w : Wd, gIx [] (.new [.tup [.int 0, .int 1], .tup [.int ((N : Int) + 1), .int 0], .tup [.int nm, .int 2], .tup [.int nm, .int (0 - 1)], .tup [.int ((N : Int) + 1 + other), .int 1]]) (.int (other % 5)) = some (wd w) := by
      generalize other % 5 = k at hw5
      have hk : k = 0 ∨ k = 1 ∨ k = 2 ∨ k = 3 ∨ k = 4 := by omega
      rcases hk with rfl | rfl | rfl | rfl | rfl
      · exact ⟨(0, 1), rfl⟩
      · exact ⟨((N : Int) + 1, 0), rfl⟩
      · exact ⟨(nm, 2), rfl⟩
      · exact ⟨(nm, 0 - 1), rfl⟩
      · exact ⟨((N : Int) + 1 + other, 1), rfl⟩
    obtain ⟨w, hb⟩ := hbad
    have hb : gIx [] (.new [.tup [.int 0, .int 1], .tup [.int ((N : Int) + 1), .int 0], .tup [.int nm, .int 2], .tup [.int nm, .int (-1)], .tup [.int ((N : Int) + 1 + other), .int 1]]) (.int (other % 5)) = some (wd w) := hb
    have e4 : gAdd [] (rowD a) (.tup [wd w]) = some (rowD (a ++ [w])) := by
      rw [add_tup (by rw [List.length_map]; simp; omega)]
      simp
    have e5 := add_rows [] (a ++ [w]) c (by rw [List.length_append]; simp; omega)
    have e6 := hor [] (a ++ [w] ++ c)
    refine ⟨a ++ [w] ++ c, ?_, by simp; omega⟩
    simp [-List.map_append, -List.append_assoc, hm5, hb, e1, e3, e4, e5, e6]
  · obtain ⟨b, e2, l2⟩ := hS [] (some at_) (some (at_ + 1))
    have hc : _law_spoilt_line_c1 [some (.int N), some (rowD line), some (.int draw), some (.int other), some (.int at_), some (.int nm), some (.int 5), none, none] [] = some (.ok (.new ((line.map fun a => if a ∈ b then (a.1, 1 - a.2) else a).map wd)), []) := by
      unfold _law_spoilt_line_c1
      rw [List.map_map]
      refine eLc_all (chk := fun _ => True) line wd (wd ∘ fun a => if a ∈ b then (a.1, 1 - a.2) else a) (by simp) rfl (by omega) trivial ?_
      intro a ha
      have hin := in_wd [] false a b
      refine ⟨_, rfl, ?_, rfl⟩
      by_cases q : a ∈ b
      · have hin : gInA false [] (.tup [.int a.1, .int a.2]) (rowD b) = some (.bl true) := by rw [hin, decide_eq_true q]; rfl
        simp [wipeD, e2, hin, q]
      · have hin : gInA false [] (.tup [.int a.1, .int a.2]) (rowD b) = some (.bl false) := by rw [hin, decide_eq_false q]; rfl
        simp [wipeD, e2, hin, q]
    have e4 := hor [] (line.map fun a => if a ∈ b then (a.1, 1 - a.2) else a)
    refine ⟨line.map fun a => if a ∈ b then (a.1, 1 - a.2) else a, ?_, by rw [List.length_map]; omega⟩
    generalize (line.map fun a => if a ∈ b then (a.1, 1 - a.2) else a) = ll at *
    simp [hc, e4]
/-! ### a node spoilt -/
theorem spoilt_eq (N many : Nat) (hm : 1 ≤ many) (o : Tr Int) (hN : N = 0 → ∃ i, o = .w i) {k : Nat} (hk : k ≤ 1000) (hb : LB k o) (draw other : Int) (ho : 0 ≤ other) : ∃ q : Tr Int, m__law_spoilt [.int N, .int many, pD o, .int draw, .int other] = some (.ok (pD q)) ∧ dp q ≤ dp o ∧ cnt q ≤ cnt o ∧ LB (3 * k + 2) q ∧ (N = 0 → ∃ i, q = .w i) := by
  have hop := out_pD []
  unfold m__law_spoilt b__law_spoilt
  cases o with
  | w i =>
    obtain ⟨h0, h1⟩ := w_ix [] D.int i rfl
    have hm5 : ∀ μ, gModI μ (.int draw) (.int 5) = some (.int (draw % 5)) := fun μ => mod_int (by decide)
    have hm1 : ∀ μ, gModI μ (.int other) (.int many) = some (.int (other % many)) := fun μ => mod_int (by omega)
    have hm2 : ∀ μ, gModI μ (.int (other + 1)) (.int many) = some (.int ((other + 1) % many)) := fun μ => mod_int (by omega)
    have hbad : ∃ j : Int, gIx [] (.new [.int ((many : Int) + other), .int (0 - 1 - other), .int (other % many), .int many, .int ((other + 1) % many)]) (.int (draw % 5)) = some (.int j) := by
      have hw5 : 0 ≤ draw % 5 ∧ draw % 5 < 5 := ⟨by omega, by omega⟩
      generalize draw % 5 = c at hw5
      have hc : c = 0 ∨ c = 1 ∨ c = 2 ∨ c = 3 ∨ c = 4 := by omega
      rcases hc with rfl | rfl | rfl | rfl | rfl
      · exact ⟨_, rfl⟩
      · exact ⟨_, rfl⟩
      · exact ⟨_, rfl⟩
      · exact ⟨_, rfl⟩
      · exact ⟨_, rfl⟩
    obtain ⟨j, hj⟩ := hbad
    have hj : gIx [] (.new [.int ((many : Int) + other), .int (-1 - other), .int (other % many), .int many, .int ((other + 1) % many)]) (.int (draw % 5)) = some (.int j) := hj
    have hq := hop (.w j)
    have hq : outD [] (.tup [.str "wish", .int j]) = some (.tup [.str "wish", .int j]) := hq
    generalize hP : pD (.w i) = P at h0 h1
    rw [show trD D.int (.w i) = P from hP] at h0 h1
    have hPn : notNew P = true := by rw [← hP]; rfl
    refine ⟨.w j, ?_, Nat.le_refl _, Nat.le_refl _, trivial, fun _ => ⟨j, rfl⟩⟩
    have ht : pD (.w j) = .tup [.str "wish", .int j] := rfl
    rw [ht]
    simp [-eV_e, eV_n, hPn, h0, str_eqT, hm5, hm1, hm2, hj, hq]
  | f n line l r =>
    have hN1 : 1 ≤ N := by
      rcases Nat.eq_zero_or_pos N with z | z
      · obtain ⟨i, q⟩ := hN z
        cases q
      · exact z
    have hN0 : ∀ q : Tr Int, N = 0 → ∃ i, q = .w i := fun q z => by omega
    obtain ⟨b1, b2, b3⟩ := hb
    obtain ⟨h0, h1, h2, h3, h4⟩ := f_ix [] D.int n line l r
    have hm10 : ∀ μ, gModI μ (.int draw) (.int 10) = some (.int (draw % 10)) := fun μ => mod_int (by decide)
    have hd10 : ∀ μ, gDivI μ (.int draw) (.int 10) = some (.int (draw / 10)) := fun μ => div_int ⟨by decide, by decide⟩
    have hm4 : ∀ μ, gModI μ (.int (draw / 10)) (.int 4) = some (.int (draw / 10 % 4)) := fun μ => mod_int (by decide)
    have hmN : ∀ μ, gModI μ (.int other) (.int N) = some (.int (other % N)) := fun μ => mod_int (by omega)
    have hm2 : ∀ μ, gModI μ (.int other) (.int 2) = some (.int (other % 2)) := fun μ => mod_int (by decide)
    have hw : 0 ≤ draw % 10 ∧ draw % 10 < 10 := ⟨by omega, by omega⟩
    have hofq : ∀ (n' : Int) (line' : Rw) (l' r' : Tr Int), outD [] (.tup [.str "from", .int n', rowD line', pD l', pD r']) = some (.tup [.str "from", .int n', rowD line', pD l', pD r']) := fun n' line' l' r' => hop (.f n' line' l' r')
    have ht : ∀ (n' : Int) (line' : Rw) (l' r' : Tr Int), pD (.f n' line' l' r') = .tup [.str "from", .int n', rowD line', pD l', pD r'] := fun _ _ _ _ => rfl
    have bmono : ∀ {q : Tr Int}, LB k q → LB (3 * k + 2) q := fun q => q.mono (by omega)
    obtain ⟨s, es, ls⟩ := spoilt_line_eq N hN1 line (by omega) draw other ho
    have hbad : ∃ j : Int, gIx [] (.new [.int 0, .int (0 - 1 - other), .int ((N : Int) + 1), .int ((N : Int) + 1 + other)]) (.int (draw / 10 % 4)) = some (.int j) := by
      have hw5 : 0 ≤ draw / 10 % 4 ∧ draw / 10 % 4 < 4 := ⟨by omega, by omega⟩
      generalize draw / 10 % 4 = c at hw5
      have hc : c = 0 ∨ c = 1 ∨ c = 2 ∨ c = 3 := by omega
      rcases hc with rfl | rfl | rfl | rfl
      · exact ⟨_, rfl⟩
      · exact ⟨_, rfl⟩
      · exact ⟨_, rfl⟩
      · exact ⟨_, rfl⟩
    obtain ⟨j, hj⟩ := hbad
    have hj : gIx [] (.new [.int 0, .int (-1 - other), .int ((N : Int) + 1), .int ((N : Int) + 1 + other)]) (.int (draw / 10 % 4)) = some (.int j) := hj
    generalize hP : pD (.f n line l r) = P at h0 h1 h2 h3 h4
    rw [show trD D.int (.f n line l r) = P from hP] at h0 h1 h2 h3 h4
    have hPn : notNew P = true := by rw [← hP]; rfl
    generalize draw % 10 = way at hm10 hw
    have go1 : ∀ q : Tr Int, dp q ≤ dp (.f n line l r) → cnt q ≤ cnt (.f n line l r) → LB (3 * k + 2) q → dp q ≤ dp (.f n line l r) ∧ cnt q ≤ cnt (.f n line l r) ∧ LB (3 * k + 2) q ∧ (N = 0 → ∃ i, q = .w i) := fun q a b c => ⟨a, b, c, hN0 q⟩
    by_cases w0 : way = 0
    · subst w0
      refine ⟨.f j line l r, ?_, go1 _ (Nat.le_refl _) (Nat.le_refl _) ⟨by omega, bmono b2, bmono b3⟩⟩
      rw [ht]
      simp [-eV_e, eV_n, hPn, h0, str_eqF, hm10, hd10, hm4, hj, h2, h3, h4, hofq]
    by_cases w1 : way < 3
    · refine ⟨.f (1 + other % N) line l r, ?_, go1 _ (Nat.le_refl _) (Nat.le_refl _) ⟨by omega, bmono b2, bmono b3⟩⟩
      rw [ht]
      simp [-eV_e, eV_n, hPn, h0, str_eqF, hm10, w0, w1, hmN, h2, h3, h4, hofq]
    by_cases w3 : way = 3
    · subst w3
      refine ⟨.f n line r l, ?_, go1 _ (by simp only [dp]; omega) (by simp only [cnt]; omega) ⟨by omega, bmono b3, bmono b2⟩⟩
      rw [ht]
      simp [-eV_e, eV_n, hPn, h0, str_eqF, hm10, h1, h2, h3, h4, hofq]
    by_cases w4 : way = 4
    · subst w4
      have hx : ∃ q, gIx [] P (.int (3 + other % 2)) = some (pD q) ∧ (q = l ∨ q = r) := by
        have hc : other % 2 = 0 ∨ other % 2 = 1 := by omega
        rcases hc with hc | hc
        · rw [hc]; exact ⟨l, h3, .inl rfl⟩
        · rw [hc]; exact ⟨r, h4, .inr rfl⟩
      obtain ⟨q, hx, hq⟩ := hx
      have hoq := hop q
      refine ⟨q, ?_, go1 _ ?_ ?_ ?_⟩
      · simp [-eV_e, eV_n, hPn, h0, str_eqF, hm10, hm2, hx, hoq]
      · rcases hq with rfl | rfl <;> simp only [dp] <;> omega
      · rcases hq with rfl | rfl <;> simp only [cnt] <;> omega
      · rcases hq with rfl | rfl
        · exact bmono b2
        · exact bmono b3
    · refine ⟨.f n s l r, ?_, go1 _ (Nat.le_refl _) (Nat.le_refl _) ⟨by omega, bmono b2, bmono b3⟩⟩
      rw [ht]
      simp [-eV_e, eV_n, hPn, h0, str_eqF, hm10, w0, w1, w3, w4, h1, h2, h3, h4, es, hofq]
end LK
set_option Elab.async false
set_option linter.all false
set_option maxRecDepth 100000
set_option maxHeartbeats 8000000
namespace LK
open PySem PySem.Spec PyProof.Rows L2 DL
/-! ### a book made -/
theorem srt_self {names : Int} {r : Rw} (h : RR names r) : srt r = r := by
  refine List.mergeSort_of_pairwise (h.asc.imp fun {a b} q => ?_)
  rw [leE_wd, decide_eq_true_eq]
  exact .inl q
theorem plain_row_eq {names : Int} {r : Rw} (h : RR names r) (hl : r.length ≤ 1000) : m_plain_row [.lst (r.map wd)] = some (.ok (rowD r)) := by
  have hc : plain_row_c1 [some (.lst (r.map wd)), none, none] [] = some (.ok (.new (r.map wd)), []) := by
    unfold plain_row_c1
    refine eLc_all (chk := fun _ => True) r wd wd (by simp) rfl (by omega) trivial ?_
    intro a ha
    refine ⟨_, rfl, ?_, rfl⟩
    simp [wipeD]
  have hs : gSort [] [.new (r.map wd)] = some (.new (r.map wd)) := by
    have := sort_wds (μ := []) (x := .new (r.map wd)) r rfl
    rw [show r.mergeSort leE = srt r from rfl, srt_self h] at this
    exact this
  have ho := out_row [] r
  unfold m_plain_row b_plain_row
  simp [hc, hs, ho]
abbrev lsD (r : Rw) : D := .lst (r.map wd)
theorem cv1 : cvT "Book" "MOST_NAMES" = some 40 := by decide +kernel
theorem cv2 : cvT "Book" "MOST_WISHES" = some 128 := by decide +kernel
theorem fl1 : fldT "Book" "names" = true := by decide +kernel
theorem fl2 : fldT "Book" "wishes" = true := by decide +kernel
theorem setN (x y : MO) (N : D) (hn : frzD N = N) : setF fldT "names" [.ins "Book" [], x, y] (.ref 0) N = some [.ins "Book" [("names", N)], x, y] := by
  show (if fldT "Book" "names" = true ∧ ([] : List (Str × D)).length < 1000 then some _ else none) = _
  rw [if_pos ⟨fl1, by decide⟩, hn]
  rfl
theorem putW (N y : D) : putD ("wishes" : Str) y [(("names" : Str), N)] = [(("names" : Str), N), (("wishes" : Str), y)] := by kernel_rfl
theorem setW (x z : MO) (N y : D) (hn : frzD y = y) : setF fldT "wishes" [.ins "Book" [("names", N)], x, z] (.ref 0) y = some [.ins "Book" [("names", N), ("wishes", y)], x, z] := by
  show (if fldT "Book" "wishes" = true ∧ [(("names" : Str), N)].length < 1000 then some _ else none) = _
  rw [if_pos ⟨fl2, by show 1 < 1000; decide⟩, hn, putW]
  rfl
theorem book_eq (N : Nat) (hN : N ≤ 40) (ws : List Rw) (hw : ∀ r ∈ ws, RR N r) (hp : ws.Pairwise fun a b => leE a b = true) (hn : ws.Nodup) (hl : ws.length ≤ 128) : m_Book_init [.int N, .lst (ws.map lsD)] = some (.ok (bk N ws)) := by
  have key : ∀ (l done : List Rw) (k : Nat) (o4 o5 o6 : Option D), (∀ r ∈ l, RR N r) → done.length + l.length ≤ 1000 → ∃ sd, loopF (fun _ => True) (gTupD (gConsD (gD 4) (gConsD (gD 5) (gNilD)))) Book_init_b1 (((l.map lsD).zipIdx k).map fun z => D.tup [.int (z.2 : Nat), z.1])
      [some (.ref 0), some (.int N), some (.lst (ws.map lsD)), some (.ref 1), o4, o5, o6] [.ins "Book" [], .lst (done.map rowD)] = some (.nx, sd, [.ins "Book" [], .lst ((done ++ l).map rowD)]) ∧ sd[0]? = some (some (.ref 0)) ∧ sd[1]? = some (some (.int N)) ∧ sd[3]? = some (some (.ref 1)) ∧ sd.length = 7 := by
    intro l
    induction l with
    | nil => intro done k o4 o5 o6 _ _; exact ⟨_, by rw [List.append_nil]; rfl, rfl, rfl, rfl, rfl⟩
    | cons r l ih =>
      intro done k o4 o5 o6 hr hlen
      rw [List.length_cons] at hlen
      have hrr := hr r List.mem_cons_self
      have hrl := hrr.len
      have hpr := plain_row_eq hrr (by omega)
      have hri := right_eq N r
      rw [hrr.rgt] at hri
      have happ : muAppend [.ins "Book" [], .lst (done.map rowD)] (.ref 1) [rowD r] = some (.non, [.ins "Book" [], .lst ((done ++ [r]).map rowD)]) := by
        rw [app_ref (n := 1) (es := done.map rowD) rfl (by rw [List.length_map]; omega) rfl]
        simp
      have harg : argD [.ins "Book" [], .lst (done.map rowD)] (lsD r) = some (lsD r) := if_pos (ok_wd r)
      have hb : Book_init_b1 [some (.ref 0), some (.int N), some (.lst (ws.map lsD)), some (.ref 1), some (.int (k : Nat)), some (lsD r), o6] [.ins "Book" [], .lst (done.map rowD)] = some (.nx, [some (.ref 0), some (.int N), some (.lst (ws.map lsD)), some (.ref 1), some (.int (k : Nat)), some (lsD r), some (rowD r)], [.ins "Book" [], .lst ((done ++ [r]).map rowD)]) := by
        unfold Book_init_b1
        generalize D.lst (ws.map lsD) = WS at *
        have hil : isLst [.ins "Book" [], .lst (done.map rowD)] (.ref 1) = some (done.map rowD) := rfl
        simp [-List.map_append, harg, hpr, hri, happ, hil]
      obtain ⟨sd, e1, e2⟩ := ih (done ++ [r]) (k + 1) (some (.int (k : Nat))) (some (lsD r)) (some (rowD r)) (fun x hx => hr x (List.mem_cons_of_mem _ hx)) (by rw [List.length_append]; simp; omega)
      rw [List.append_assoc, List.singleton_append] at e1
      refine ⟨sd, ?_, e2⟩
      rw [List.map_cons, List.zipIdx_cons, List.map_cons]
      exact (loop_go (sd1 := [some (.ref 0), some (.int N), some (.lst (ws.map lsD)), some (.ref 1), some (.int (k : Nat)), some (lsD r), o6]) (μ1 := [.ins "Book" [], .lst (done.map rowD)]) rfl hb trivial).trans e1
  obtain ⟨sd, e1, q0, q1, q3, q7⟩ := key ws [] 0 none none none hw (by simp; omega)
  rw [List.nil_append] at e1
  have hloop : Book_init_l1 [some (.ref 0), some (.int N), some (.lst (ws.map lsD)), some (.ref 1), none, none, none] [.ins "Book" [], .lst []] = some (.nx, sd, [.ins "Book" [], .lst (ws.map rowD)]) := by
    unfold Book_init_l1
    rw [sFor_of (ds := enumD (ws.map lsD)) (chk := fun _ => True) (by
      rw [iEnum_e]
      generalize ws.map lsD = WL
      simp [one, isTupD])]
    exact e1
  have hset : gSortSet [.ins "Book" [], .lst (ws.map rowD)] [.ref 1] = some (.new (ws.map rowD)) := sortSet_rows (μ := [.ins "Book" [], .lst (ws.map rowD)]) (x := .ref 1) ws rfl hp hn (by omega)
  obtain ⟨d0, d1, d2, d3, d4, d5, d6, rfl⟩ : ∃ d0 d1 d2 d3 d4 d5 d6, sd = [d0, d1, d2, d3, d4, d5, d6] := by
    match sd, q7 with
    | [d0, d1, d2, d3, d4, d5, d6], _ => exact ⟨_, _, _, _, _, _, _, rfl⟩
  simp at q0 q1 q3
  subst q0 q1 q3
  have hlen : gLen [.ins "Book" [], .lst (ws.map rowD), .lst (ws.map rowD)] [.ref 2] = some (.int ws.length) := by
    rw [len_any (ds := ws.map rowD) rfl, List.length_map]
  have hgt : gGtI [.ins "Book" [], .lst (ws.map rowD), .lst (ws.map rowD)] (.int ws.length) (.int 128) = some (.bl false) := by rw [DL.gt_int, decide_eq_false (by omega)]
  have htup : gTuple [.ins "Book" [("names", .int N)], .lst (ws.map rowD), .lst (ws.map rowD)] [.ref 2] = some (.tup (ws.map rowD)) := tup_any rfl
  have hs1 := setN (.lst (ws.map rowD)) (.lst (ws.map rowD)) (.int N) rfl
  have hs2 := setW (.lst (ws.map rowD)) (.lst (ws.map rowD)) (.int N) (.tup (ws.map rowD)) rfl
  have hout : outD [.ins "Book" [("names", .int N), ("wishes", .tup (ws.map rowD))], .lst (ws.map rowD), .lst (ws.map rowD)] (.ref 0) = some (bk N ws) := by
    show (if plainF [(("names" : Str), D.int N), ("wishes", .tup (ws.map rowD))] = true then _ else _) = _
    rw [if_pos (by show (true && (plainL (ws.map rowD) && true)) = true; rw [pl_row]; rfl)]
  have n1 : ¬ (N : Int) < 0 := by omega
  have n2 : ¬ (N : Int) > 40 := by omega
  have hg1 : ∀ μ, gLtI μ (.int N) (.int 0) = some (.bl false) := fun μ => by rw [DL.lt_int, decide_eq_false n1]
  have hg2 : ∀ μ, gGtI μ (.int N) (.int 40) = some (.bl false) := fun μ => by rw [DL.gt_int, decide_eq_false n2]
  unfold m_Book_init DL.runI b_Book_init
  simp only [List.map_cons, List.map_nil, List.length_cons, List.length_nil, List.cons_append, List.nil_append, Nat.zero_add, Nat.reduceAdd, Nat.reduceSub, List.reduceReplicate]
  generalize hWL : D.lst (ws.map lsD) = WL at *
  have hWn : notNew WL = true := by rw [← hWL]; rfl
  generalize hWR : ws.map rowD = WR at *
  generalize ((ws.length : Nat) : Int) = LN at *
  rw [sSeq_of (sd1 := [some (.ref 0), some (.int N), some WL, none, none, none, none]) (μ1 := [.ins "Book" []]) (by simp [-DL.lt_int, -DL.gt_int, hg1, cv1, hg2])]
  rw [sSeq_of (sd1 := [some (.ref 0), some (.int N), some WL, some (.ref 1), none, none, none]) (μ1 := [.ins "Book" [], .lst []]) (by simp)]
  rw [sSeq_of hloop]
  rw [sSeq_of (sd1 := [some (.ref 0), some (.int N), d2, some (.ref 2), d4, d5, d6]) (μ1 := [.ins "Book" [], .lst WR, .lst WR]) (by simp [hset])]
  rw [sSeq_of (sd1 := [some (.ref 0), some (.int N), d2, some (.ref 2), d4, d5, d6]) (μ1 := [.ins "Book" [], .lst WR, .lst WR]) (by simp [-DL.gt_int, hlen, cv2, hgt])]
  rw [sSeq_of (sd1 := [some (.ref 0), some (.int N), d2, some (.ref 2), d4, d5, d6]) (μ1 := [.ins "Book" [("names", .int N)], .lst WR, .lst WR]) (by simp [hs1])]
  have hlast : sSetF fldT "wishes" (eV 0) (eCB gTuple (eCons (eV 3) eNil)) [some (.ref 0), some (.int N), d2, some (.ref 2), d4, d5, d6] [.ins "Book" [("names", .int N)], .lst WR, .lst WR] = some (.nx, [some (.ref 0), some (.int N), d2, some (.ref 2), d4, d5, d6], [.ins "Book" [("names", .int N), ("wishes", .tup WR)], .lst WR, .lst WR]) := by
    simp [htup, hs2]
  rw [hlast]
  simp only [hout, Option.map_some]
/-- the arguments: a list of lists -/
theorem argsM_book (μ : Mem) (N : Nat) (ws : List Rw) : argsM μ [.int N, .new (ws.map fun r => .fr (r.map wd))] = some [.int N, .lst (ws.map lsD)] := by
  have hr : ∀ r : Rw, argNs (r.map wd) = some (r.map wd) := by
    intro r
    induction r with
    | nil => rfl
    | cons a r ih =>
      show ((argN (wd a)).bind fun x => (argNs (r.map wd)).map fun xs => x :: xs) = _
      rw [ih]
      rfl
  have hws : ∀ ws : List Rw, argNs (ws.map fun r => .fr (r.map wd)) = some (ws.map lsD) := by
    intro ws
    induction ws with
    | nil => rfl
    | cons r ws ih =>
      show ((argN (.fr (r.map wd))).bind fun x => (argNs (ws.map fun r => .fr (r.map wd))).map fun xs => x :: xs) = _
      rw [ih]
      show (((argNs (r.map wd)).map D.lst).bind fun x => (some (ws.map lsD)).map fun xs => x :: xs) = _
      rw [hr]
      rfl
  have hn : argNs [.int N, .new (ws.map fun r => .fr (r.map wd))] = some [.int N, .lst (ws.map lsD)] := by
    show ((argN (.int N)).bind fun x => ((argN (.new (ws.map fun r => .fr (r.map wd)))).bind fun x => (some []).map fun xs => x :: xs).map fun xs => x :: xs) = _
    show ((some (D.int N)).bind fun x => ((((argNs (ws.map fun r => .fr (r.map wd))).map D.lst)).bind fun x => (some []).map fun xs => x :: xs).map fun xs => x :: xs) = _
    rw [hws]
    rfl
  unfold argsM
  cases ws with
  | nil => rfl
  | cons r ws =>
    have : argsD μ [.int N, .new ((r :: ws).map fun r => .fr (r.map wd))] = none := by
      show ((argD μ (.int N)).bind fun x => ((argD μ (.new ((r :: ws).map fun r => .fr (r.map wd)))).bind fun x => (some []).map fun xs => x :: xs).map fun xs => x :: xs) = none
      rw [show argD μ (.new ((r :: ws).map fun r => .fr (r.map wd))) = none from rfl]
      rfl
    rw [this, Option.none_or, hn]
end LK
set_option Elab.async false
set_option linter.all false
set_option maxRecDepth 100000
set_option maxHeartbeats 8000000
namespace LK
open PySem PySem.Spec PyProof.Rows L2 DL
/-! ### a wish -/
theorem Dr.get {l : List Int} (h : Dr l) (i : Nat) : 0 ≤ l.getD i 0 ∧ l.getD i 0 < 60 := by
  rw [List.getD_eq_getElem?_getD]
  cases q : l[i]? with
  | none => simp
  | some x => simpa using h x (List.mem_of_getElem? q)
def wishOf (l : List Int) (n : Nat) : Rw := ((List.range n).filter fun k => decide (l.getD k 0 % 3 > 0)).map fun k : Nat => ((k : Int) + 1, l.getD k 0 % 3 - 1)
theorem wish_RR (l : List Int) (hd : Dr l) (n : Nat) : RR n (wishOf l n) := by
  constructor
  · unfold wishOf
    rw [List.pairwise_map]
    exact (List.pairwise_lt_range.filter _).imp fun {a b} h => by show (a : Int) + 1 < b + 1; omega
  · intro a ha
    unfold wishOf at ha
    obtain ⟨k, hk, rfl⟩ := List.mem_map.mp ha
    obtain ⟨h1, h2⟩ := List.mem_filter.mp hk
    have h1 := List.mem_range.mp h1
    have h2 := of_decide_eq_true h2
    have := hd.get k
    refine ⟨by show 1 ≤ (k : Int) + 1; omega, by show (k : Int) + 1 ≤ n; omega, ?_⟩
    show l.getD k 0 % 3 - 1 = 0 ∨ l.getD k 0 % 3 - 1 = 1
    omega
theorem wish_eq (c : Int) (n : Nat) (h : n ≤ 100) : ∃ r : Rw, m__law_wish [.int c, .int n] = some (.ok (rowD r)) ∧ RR n r := by
  obtain ⟨l, e, hl, hd⟩ := draws_eq c n h
  refine ⟨wishOf l n, ?_, wish_RR l hd n⟩
  have hc : _law_wish_c1 [some (.int c), some (.int n), some (.ref 0), none] [.lst (l.map D.int)] = some (.ok (.new ((wishOf l n).map wd)), [.lst (l.map D.int)]) := by
    have hr : iR1 (eCons (eV 1) eNil) [some (.int c), some (.int n), some (.ref 0), none] [.lst (l.map D.int)] = some (.ok ((List.range n).map (fun i : Nat => D.int i), fun _ => True), [.lst (l.map D.int)]) := iR1_of (by simp) (by omega)
    unfold _law_wish_c1 wishOf
    rw [List.map_map]
    refine eLc_eq (chk := fun _ => True) (List.range n) (fun i : Nat => D.int i) (fun k => decide (l.getD k 0 % 3 > 0)) (fun k : Nat => wd ((k : Int) + 1, l.getD k 0 % 3 - 1)) hr rfl (by simp; omega) trivial ?_
    intro k hk
    have hk := List.mem_range.mp hk
    have hx : gIx [.lst (l.map D.int)] (.ref 0) (.int k) = some (.int (l.getD k 0)) := ix_int (.inr rfl) (by omega) (by omega)
    have hm : ∀ μ, gModI μ (.int (l.getD k 0)) (.int 3) = some (.int (l.getD k 0 % 3)) := fun μ => mod_int (by decide)
    generalize l.getD k 0 = z at *
    refine ⟨_, rfl, ?_, fun _ => ⟨?_, rfl⟩⟩
    · simp [wipeD, hx, hm]
    · simp [wipeD, hx, hm]
  have t1 : gTuple [.lst (l.map D.int)] [.new ((wishOf l n).map wd)] = some (rowD (wishOf l n)) := tup_any rfl
  have ho := out_tup (μ := [.lst (l.map D.int)]) (pl_wd (wishOf l n))
  generalize wishOf l n = W at *
  unfold m__law_wish b__law_wish
  simp [e, hc, t1, ho]
theorem RR.mono {a b : Int} (h : a ≤ b) {r : Rw} (q : RR a r) : RR b r := ⟨q.asc, fun x hx => by
  obtain ⟨h1, h2, h3⟩ := q.rng x hx
  exact ⟨h1, by omega, h3⟩⟩
theorem Gd.leaf {N : Int} : ∀ {t : Tr Rw} {al : Rw}, Gd N al t → ∀ r ∈ lvs t, RR N r
  | .w row, al, ⟨_, g⟩, r, hr => by
    rw [lvs, List.mem_singleton] at hr
    rw [hr]
    exact g
  | .f n line l r, al, ⟨_, _, _, _, _, g6, g7⟩, x, hx => by
    rw [lvs, List.mem_append] at hx
    rcases hx with hx | hx
    · exact g6.leaf x hx
    · exact g7.leaf x hx
/-! ### rows once each -/
def uq : List Rw → List Rw → List Rw
  | acc, [] => acc
  | acc, r :: l => if acc.getLast? = some r then uq acc l else uq (acc ++ [r]) l
theorem uq_spec : ∀ (l acc : List Rw), (acc ++ l).Pairwise (fun a b => leE a b = true) → acc.Nodup → (∀ a ∈ acc, ∀ z, acc.getLast? = some z → leE a z = true) →
    (uq acc l).Pairwise (fun a b => leE a b = true) ∧ (uq acc l).Nodup ∧ (∀ r, r ∈ uq acc l ↔ r ∈ acc ∨ r ∈ l) ∧ (uq acc l).length ≤ acc.length + l.length
  | [], acc, hp, hn, _ => by
    rw [List.append_nil] at hp
    exact ⟨hp, hn, fun r => by simp [uq], by simp [uq]⟩
  | r :: l, acc, hp, hn, hg => by
    unfold uq
    split
    · rename_i q
      have hmem : r ∈ acc := List.mem_of_getLast? q
      have hp2 : (acc ++ l).Pairwise (fun a b => leE a b = true) := hp.sublist (List.Sublist.append (List.Sublist.refl _) (List.sublist_cons_self r l))
      obtain ⟨h1, h2, h3, h4⟩ := uq_spec l acc hp2 hn hg
      refine ⟨h1, h2, fun x => ?_, by rw [List.length_cons]; omega⟩
      rw [h3, List.mem_cons]
      constructor
      · rintro (h | h)
        · exact .inl h
        · exact .inr (.inr h)
      · rintro (h | rfl | h)
        · exact .inl h
        · exact .inl hmem
        · exact .inr h
    · rename_i q
      have hr : ∀ a ∈ acc, leE a r = true := fun a ha => (List.pairwise_append.mp hp).2.2 a ha r List.mem_cons_self
      have hnot : r ∉ acc := fun hm => by
        cases hz : acc.getLast? with
        | none =>
          rw [List.getLast?_eq_none_iff] at hz
          rw [hz] at hm
          cases hm
        | some z =>
          have h1 := hg r hm z hz
          have h2 := hr z (List.mem_of_getLast? hz)
          exact q (by rw [hz, leE_row_anti h1 h2])
      have hp2 : ((acc ++ [r]) ++ l).Pairwise (fun a b => leE a b = true) := by rw [List.append_assoc]; exact hp
      obtain ⟨h1, h2, h3, h4⟩ := uq_spec l (acc ++ [r]) hp2 (by
        rw [List.nodup_append]
        exact ⟨hn, by simp, fun a ha b hb => by rw [List.mem_singleton.mp hb]; rintro rfl; exact hnot ha⟩) (by
        intro a ha z hz
        rw [List.getLast?_append, List.getLast?_singleton] at hz
        cases hz
        rcases List.mem_append.mp ha with h | h
        · exact hr a h
        · rw [List.mem_singleton.mp h]
          have := leE_total (α := Rw) |>.total r r
          simpa using this)
      refine ⟨h1, h2, fun x => ?_, ?_⟩
      · rw [h3, List.mem_append, List.mem_singleton, List.mem_cons]
        constructor
        · rintro ((h | h) | h)
          · exact .inl h
          · exact .inr (.inl h)
          · exact .inr (.inr h)
        · rintro (h | h | h)
          · exact .inl (.inl h)
          · exact .inl (.inr h)
          · exact .inr h
      · rw [List.length_append, List.length_singleton] at h4
        rw [List.length_cons]
        omega
end LK
set_option Elab.async false
set_option linter.all false
set_option maxRecDepth 100000
set_option maxHeartbeats 8000000
namespace LK
open PySem PySem.Spec PyProof.Rows L2 DL
/-! ### a round -/
/-- a paper in bounds -/
structure PO (N c k : Nat) (p : Tr Int) : Prop where
  d : dp p ≤ 98
  c : cnt p ≤ c
  l : LB k p
  z : N = 0 → ∃ i, p = .w i
theorem PO.sm {N c k : Nat} {p : Tr Int} (h : PO N c k p) (hc : c ≤ 128) (hk : k ≤ 1000) : Sm p := ⟨by have := h.d; omega, h.l.sz hk, by have := h.c; omega⟩
abbrev ST (a0 a1 a4 a5 a6 BK P : D) (N : Nat) (o10 o15 o16 o17 o18 o19 : Option D) : Sl := [some a0, some a1, some (.int N), some (.ref 0), some a4, some a5, some a6, some (.ref 1), some (.ref 2), some (.ref 3), o10, some BK, some P, some (.ref 4), some (.ref 5), o15, o16, o17, o18, o19, none, none]
theorem lsr {μ : Mem} {n : Nat} {ds : List D} (h : μ[n]? = some (.lst ds)) : lsAny μ (.ref n) = some ds := by
  show (match μ[n]? with
    | some (.lst ds) => some ds
    | _ => none) = _
  rw [h]
theorem at_place {pls : List (List Int)} (hp : 0 < pls.length) (μ : Mem) (hμ : μ[4]? = some (.lst (pls.map plD))) (i : Int) : ∃ s, s ∈ pls ∧ gIx μ (.ref 4) (.int (i % (pls.length : Int))) = some (plD s) := by
  have h0 : 0 ≤ i % (pls.length : Int) := Int.emod_nonneg _ (by omega)
  have h1 : i % (pls.length : Int) < pls.length := Int.emod_lt_of_pos _ (by omega)
  refine ⟨pls.getD (i % (pls.length : Int)).toNat [], ?_, ix_map (e := plD) [] (.inr (lsr hμ)) h0 h1 fun a es q => by cases q⟩
  rw [List.getD_eq_getElem?_getD, List.getElem?_eq_getElem (by omega)]
  exact List.getElem_mem _
theorem round_eq (a0 a1 a4 a5 a6 BK P : D) (N : Nat) (o10 o18 o19 : Option D) (m0 m1 m2 : MO) (ws : List Rw) (hws : ws ≠ []) (pls : List (List Int)) (mo : List Int) (hmo : mo.length = 60) (hdr : Dr mo) (p : Tr Int) (hpl : pls = plc p []) {k : Nat} (hk : 3 * k + 2 ≤ 1000)
    (q : Tr Int) (hq : PO N 128 k q) (K : Nat) (hK : K ≤ 11) (j : Nat) (hj : j = 0 ∧ q = p ∨ j = 1) :
    ∃ (q' : Tr Int) (o18' o19' : Option D), law_b1 (ST a0 a1 a4 a5 a6 BK P N o10 (some (.int K)) (some (pD q)) (some (.int j)) o18 o19) [m0, m1, m2, .lst (ws.map rowD), .lst (pls.map plD), .lst (mo.map D.int)]
      = some (.nx, ST a0 a1 a4 a5 a6 BK P N o10 (some (.int K)) (some (pD q')) (some (.int j)) o18' o19', [m0, m1, m2, .lst (ws.map rowD), .lst (pls.map plD), .lst (mo.map D.int)]) ∧ PO N 128 (3 * k + 2) q' := by
  have hplen : 0 < pls.length := by
    have := plc_len p []
    have := cnt_pos p
    rw [hpl]
    omega
  have hj1 : j ≤ 1 := by rcases hj with ⟨h, _⟩ | h <;> omega
  have hM : ∃ M : Mem, M = [m0, m1, m2, .lst (ws.map rowD), .lst (pls.map plD), .lst (mo.map D.int)] := ⟨_, rfl⟩
  obtain ⟨M, hM⟩ := hM
  rw [← hM]
  have h3 : M[3]? = some (.lst (ws.map rowD)) := by rw [hM]; rfl
  have h4 : M[4]? = some (.lst (pls.map plD)) := by rw [hM]; rfl
  have h5 : M[5]? = some (.lst (mo.map D.int)) := by rw [hM]; rfl
  clear hM
  have hx : ∀ i : Int, 0 ≤ i → i < 60 → gIx M (.ref 5) (.int i) = some (.int (mo.getD i.toNat 0)) := fun i g0 g1 => ix_int (.inr (lsr h5)) g0 (by omega)
  have hmul5 : ∀ μ, gMulA μ (.int 5) (.int K) = some (.int (5 * K)) := fun μ => mulA (small_mul 20 20 (by decide) (by omega))
  have hg : ∀ i : Nat, 0 ≤ mo.getD i 0 ∧ mo.getD i 0 < 60 := fun i => hdr.get i
  have hmul60 : ∀ μ (i : Nat), gMulA μ (.int 60) (.int (mo.getD i 0)) = some (.int (60 * mo.getD i 0)) := fun μ i => mulA (small_mul 20 20 (by decide) (by have := hg i; omega))
  have hmod : ∀ i : Int, gModI M (.int i) (.int pls.length) = some (.int (i % (pls.length : Int))) := fun i => mod_int (by omega)
  have hlp : gLen M [.ref 4] = some (.int pls.length) := by rw [len_any (lsr h4), List.length_map]
  have hlw : gLen M [.ref 3] = some (.int ws.length) := by rw [len_any (lsr h3), List.length_map]
  have x1 := hx (5 * K + j) (by omega) (by omega)
  have x2 := hx (59 - K) (by omega) (by omega)
  have x3 := hx (5 * K + 2 + j) (by omega) (by omega)
  have x4 := hx (5 * K + 4 - j) (by omega) (by omega)
  have gx4 := (hg (5 * (K : Int) + 4 - j).toNat).1
  have m2 := hmul60 M (59 - (K : Int)).toNat
  generalize mo.getD (5 * (K : Int) + j).toNat 0 = d1 at x1
  generalize mo.getD (59 - (K : Int)).toNat 0 = d2 at x2 m2
  generalize mo.getD (5 * (K : Int) + 2 + j).toNat 0 = d3 at x3
  generalize mo.getD (5 * (K : Int) + 4 - j).toNat 0 = d4 at x4 gx4
  obtain ⟨s, hs, hsx⟩ := at_place hplen M h4 (d1 + 60 * d2 + j)
  have hmd := hmod (d1 + 60 * d2 + j)
  generalize (d1 + 60 * d2 + j) % (pls.length : Int) = ii at hsx hmd
  -- the place kept, or none
  have hq98 := hq.d
  have hqc := hq.c
  have hqp := places_eq 110 q [] (by omega) (by simp; omega) (by omega)
  have hin : gInA true M (plD s) (.new ((plc q []).map plD)) = some (.bl (!decide (s ∈ plc q []))) := in_lst (α := List Int) true s (plc q []) (toPm_new (α := List Int) M (plc q [])) (fun z q => by cases q)
  have hplace : ∃ s2 : List Int, (nodeAt q s2).isSome = true ∧ (sIf (qAnd (qB (eBin (gEqD false) (eV 17) (eC (.int 1)))) (qB (eBin (gInA true) (eV 18) (eCall (m__law_places 110) 2 (eCons (eV 16) (eCons (eTup (eNil)) (eNil))))))) (sAsg (eOwn (eTup (eNil))) (gD 18)) (sSkip))
      (ST a0 a1 a4 a5 a6 BK P N o10 (some (.int K)) (some (pD q)) (some (.int j)) (some (plD s)) o19) M = some (.nx, ST a0 a1 a4 a5 a6 BK P N o10 (some (.int K)) (some (pD q)) (some (.int j)) (some (plD s2)) o19, M) := by
    rcases hj with ⟨rfl, rfl⟩ | rfl
    · refine ⟨s, ?_, by simp⟩
      rw [hpl] at hs
      obtain ⟨s', e1, e2⟩ := plc_at hs
      rw [List.nil_append] at e1
      rw [e1]
      exact e2
    · have hqp : m__law_places 110 [pD q, .tup []] = some (.ok (.new ((plc q []).map plD))) := hqp
      have hqn := tr_nn (e := D.int) q
      have hqa : argD M (pD q) = some (pD q) := arg_pD M q
      have ha0 : argD M (.tup []) = some (.tup []) := rfl
      have hqn : notNew (pD q) = true := hqn
      by_cases c : s ∈ plc q []
      · obtain ⟨s', e1, e2⟩ := plc_at c
        rw [List.nil_append] at e1
        refine ⟨s, by rw [e1]; exact e2, ?_⟩
        have hin : gInA true M (plD s) (.new ((plc q []).map plD)) = some (.bl false) := by rw [hin, decide_eq_true c]; rfl
        generalize (plc q []).map plD = PQ at *
        have hSn : notNew (plD s) = true := rfl
        generalize plD s = S at *
        generalize pD q = Q at *
        simp [-eV_e, eV_n, -eOwn_e, eOwn_n, -gD_e, gD_n, hqn, hqa, ha0, hqp, hin, hSn]
      · refine ⟨[], by rw [node_nil]; rfl, ?_⟩
        have hin : gInA true M (plD s) (.new ((plc q []).map plD)) = some (.bl true) := by rw [hin, decide_eq_false c]; rfl
        generalize (plc q []).map plD = PQ at *
        have hSn : notNew (plD s) = true := rfl
        generalize plD s = S at *
        generalize pD q = Q at *
        simp [-eV_e, eV_n, -eOwn_e, eOwn_n, -gD_e, gD_n, hqn, hqa, ha0, hqp, hin, hSn]
  obtain ⟨s2, hs2, hplace⟩ := hplace
  obtain ⟨o, ho⟩ := Option.isSome_iff_exists.mp hs2
  obtain ⟨k1, k2, k3, k4⟩ := node_keeps ho hq.l
  have hno := node_eq s2 q o ho
  have hoz : N = 0 → ∃ i, o = .w i := fun z => by
    obtain ⟨i, rfl⟩ := hq.z z
    cases s2 with
    | nil => rw [node_nil] at ho; cases ho; exact ⟨i, rfl⟩
    | cons a t => cases ho
  obtain ⟨nd, e1, e2, e3, e4, e5⟩ := spoilt_eq N ws.length (List.length_pos_iff.mpr hws) o hoz (k := k) (by omega) k3 d3 d4 gx4
  obtain ⟨f1, f2, f3⟩ := put_keeps ho e2 e3 (hq.l.mono (show k ≤ 3 * k + 2 by omega)) e4
  have hput := put_eq 110 s2 q nd hs2 (by omega)
  refine ⟨putAt q s2 nd, some (plD s2), some (pD nd), ?_, ⟨by omega, by omega, f3, fun z => ?_⟩⟩
  · unfold law_b1
    rw [sSeq_of (sd1 := ST a0 a1 a4 a5 a6 BK P N o10 (some (.int K)) (some (pD q)) (some (.int j)) (some (plD s)) o19) (μ1 := M) (by
      have hSn : notNew (plD s) = true := rfl
      generalize plD s = S at *
      generalize (pls.length : Int) = PN at *
      simp [-eV_e, eV_n, -eOwn_e, eOwn_n, -gD_e, gD_n, hmul5, x1, x2, m2, hlp, hmd, hsx, hSn])]
    rw [sSeq_of hplace]
    have hqn : notNew (pD q) = true := tr_nn (e := D.int) q
    have hdn : notNew (pD nd) = true := tr_nn (e := D.int) nd
    have hun : notNew (pD (putAt q s2 nd)) = true := tr_nn (e := D.int) _
    have hqa := arg_pD M q
    have hda := arg_pD M nd
    have hoa := arg_pD M o
    have hon : notNew (pD o) = true := tr_nn (e := D.int) o
    have hsa : argD M (plD s2) = some (plD s2) := arg_pl M s2
    have hSn : notNew (plD s2) = true := rfl
    generalize plD s2 = S at *
    generalize pD q = Q at *
    generalize pD nd = ND at *
    generalize pD o = O at *
    generalize pD (putAt q s2 nd) = U at *
    generalize (ws.length : Int) = WN at *
    rw [sSeq_of (sd1 := ST a0 a1 a4 a5 a6 BK P N o10 (some (.int K)) (some Q) (some (.int j)) (some S) (some ND)) (μ1 := M) (by
      simp [-eV_e, eV_n, -eOwn_e, eOwn_n, -gD_e, gD_n, hmul5, x3, x4, hlw, hno, hqa, hsa, hoa, hqn, hon, hdn, hSn, e1])]
    simp [-eV_e, eV_n, -eOwn_e, eOwn_n, -gD_e, gD_n, hqa, hsa, hda, hqn, hdn, hun, hSn, hput]
  · obtain ⟨i, rfl⟩ := hq.z z
    obtain ⟨i2, rfl⟩ := e5 z
    cases s2 with
    | nil => exact ⟨i2, rfl⟩
    | cons a t => exact ⟨i, rfl⟩
end LK
set_option Elab.async false
set_option linter.all false
set_option maxRecDepth 100000
set_option maxHeartbeats 8000000
namespace LK
open PySem PySem.Spec PyProof.Rows L2 DL
theorem rounds_eq (a0 a1 a4 a5 a6 : D) (N : Nat) (o10 o16 o17 o18 o19 : Option D) (m0 m1 m2 : MO) (ws : List Rw) (hws : ws ≠ []) (hw : ∀ r ∈ ws, r.length ≤ 1000) (pls : List (List Int)) (mo : List Int) (hmo : mo.length = 60) (hdr : Dr mo) (p : Tr Int) (hpl : pls = plc p [])
    (hp : PO N 128 40 p) (K : Nat) (hK : K < 12) :
    ∃ (o16' o17' o18' o19' : Option D), law_b2 (ST a0 a1 a4 a5 a6 (bk N ws) (pD p) N o10 (some (.int K)) o16 o17 o18 o19) [m0, m1, m2, .lst (ws.map rowD), .lst (pls.map plD), .lst (mo.map D.int)]
      = some (.nx, ST a0 a1 a4 a5 a6 (bk N ws) (pD p) N o10 (some (.int K)) o16' o17' o18' o19', [m0, m1, m2, .lst (ws.map rowD), .lst (pls.map plD), .lst (mo.map D.int)]) := by
  have hplen : 0 < pls.length := by
    have := plc_len p []
    have := cnt_pos p
    rw [hpl]
    omega
  have rd := fun BK P => round_eq a0 a1 a4 a5 a6 BK P N o10
  have h3' : ∀ M : Mem, M = [m0, m1, m2, .lst (ws.map rowD), .lst (pls.map plD), .lst (mo.map D.int)] → M[3]? = some (.lst (ws.map rowD)) ∧ M[4]? = some (.lst (pls.map plD)) ∧ M[5]? = some (.lst (mo.map D.int)) := fun M h => by rw [h]; exact ⟨rfl, rfl, rfl⟩
  -- the inner loop
  have hloop : ∃ (q : Tr Int) (o17' o18' o19' : Option D), PO N 128 368 q ∧ law_l1 (ST a0 a1 a4 a5 a6 (bk N ws) (pD p) N o10 (some (.int K)) (some (pD p)) o17 o18 o19) [m0, m1, m2, .lst (ws.map rowD), .lst (pls.map plD), .lst (mo.map D.int)]
      = some (.nx, ST a0 a1 a4 a5 a6 (bk N ws) (pD p) N o10 (some (.int K)) (some (pD q)) o17' o18' o19', [m0, m1, m2, .lst (ws.map rowD), .lst (pls.map plD), .lst (mo.map D.int)]) := by
    obtain ⟨q1, x18, x19, e1, g1⟩ := round_eq a0 a1 a4 a5 a6 (bk N ws) (pD p) N o10 o18 o19 m0 m1 m2 ws hws pls mo hmo hdr p hpl (k := 40) (by decide) p hp K (by omega) 0 (.inl ⟨rfl, rfl⟩)
    obtain ⟨q2, y18, y19, e2, g2⟩ := round_eq a0 a1 a4 a5 a6 (bk N ws) (pD p) N o10 x18 x19 m0 m1 m2 ws hws pls mo hmo hdr p hpl (k := 122) (by decide) q1 g1 K (by omega) 1 (.inr rfl)
    have hr : ∀ (μ : Mem) (sd : Sl), sd[15]? = some (some (.int K)) → iR1 (eCons (eBin gAdd (eC (.int 1)) (eBin gModI (eV 15) (eC (.int 2)))) (eNil)) sd μ = some (.ok ((List.range (1 + K % 2)).map (fun i : Nat => D.int i), fun _ => True), μ) := fun μ sd h => by
      have hm : gModI μ (.int K) (.int 2) = some (.int ((K : Int) % 2)) := mod_int (by decide)
      refine iR1_of ?_ (by omega)
      simp [h, hm]
    unfold law_l1
    rw [sFor_of (hr _ _ rfl)]
    generalize bk N ws = BK at *
    have hPn : notNew (pD p) = true := tr_nn (e := D.int) p
    rcases Nat.mod_two_eq_zero_or_one K with h | h
    · rw [h]
      refine ⟨q1, some (.int (0 : Nat)), x18, x19, ⟨g1.d, g1.c, g1.l.mono (by decide), g1.z⟩, ?_⟩
      show loopF _ _ _ [D.int (0 : Nat)] _ _ = _
      rw [loop_go (sd1 := ST a0 a1 a4 a5 a6 BK (pD p) N o10 (some (.int K)) (some (pD p)) (some (.int (0 : Nat))) o18 o19) rfl e1 trivial]
      rfl
    · rw [h]
      refine ⟨q2, some (.int (1 : Nat)), y18, y19, g2, ?_⟩
      show loopF _ _ _ [D.int (0 : Nat), D.int (1 : Nat)] _ _ = _
      rw [loop_go (sd1 := ST a0 a1 a4 a5 a6 BK (pD p) N o10 (some (.int K)) (some (pD p)) (some (.int (0 : Nat))) o18 o19) rfl e1 trivial]
      rw [loop_go (sd1 := ST a0 a1 a4 a5 a6 BK (pD p) N o10 (some (.int K)) (some (pD q1)) (some (.int (1 : Nat))) x18 x19) rfl e2 trivial]
      rfl
  obtain ⟨q, z17, z18, z19, g, hl⟩ := hloop
  obtain ⟨M, hM⟩ : ∃ M : Mem, M = [m0, m1, m2, .lst (ws.map rowD), .lst (pls.map plD), .lst (mo.map D.int)] := ⟨_, rfl⟩
  obtain ⟨h3, h4, h5⟩ := h3' M hM
  rw [← hM] at hl ⊢
  clear hM rd h3'
  have hPn : notNew (pD p) = true := tr_nn (e := D.int) p
  have hPa : argD M (pD p) = some (pD p) := arg_pD M p
  -- the node
  have hnode : ∃ q2 : Tr Int, PO N 128 368 q2 ∧ (sIf (qB (eBin gGtI (eV 15) (eC (.int 9)))) (sAsg (eOwn (eCall (m__law_node) 2 (eCons (eV 12) (eCons (eBin gIx (eV 13) (eBin gModI (eBin gIx (eV 14) (eV 15)) (eCB gLen (eCons (eV 13) (eNil))))) (eNil))))) (gD 16)) (sSkip))
      (ST a0 a1 a4 a5 a6 (bk N ws) (pD p) N o10 (some (.int K)) (some (pD q)) z17 z18 z19) M = some (.nx, ST a0 a1 a4 a5 a6 (bk N ws) (pD p) N o10 (some (.int K)) (some (pD q2)) z17 z18 z19, M) := by
    by_cases c : (K : Int) > 9
    · have x1 : gIx M (.ref 5) (.int K) = some (.int (mo.getD K 0)) := ix_int (.inr (lsr h5)) (by omega) (by omega)
      have hmod : ∀ i : Int, gModI M (.int i) (.int pls.length) = some (.int (i % (pls.length : Int))) := fun i => mod_int (by omega)
      have hlp : gLen M [.ref 4] = some (.int pls.length) := by rw [len_any (lsr h4), List.length_map]
      generalize mo.getD K 0 = d1 at *
      obtain ⟨s, hs, hsx⟩ := at_place hplen M h4 d1
      have hmd := hmod d1
      generalize d1 % (pls.length : Int) = ii at *
      rw [hpl] at hs
      obtain ⟨s', e1, e2⟩ := plc_at hs
      rw [List.nil_append] at e1
      subst e1
      obtain ⟨o, ho⟩ := Option.isSome_iff_exists.mp e2
      obtain ⟨k1, k2, k3, k4⟩ := node_keeps ho hp.l
      have hno := node_eq s p o ho
      refine ⟨o, ⟨by have := hp.d; omega, by have := hp.c; omega, k3.mono (by decide), fun z => ?_⟩, ?_⟩
      · obtain ⟨i, rfl⟩ := hp.z z
        cases s with
        | nil => rw [node_nil] at ho; cases ho; exact ⟨i, rfl⟩
        | cons a t => cases ho
      · have hsa : argD M (plD s) = some (plD s) := arg_pl M s
        have hSn : notNew (plD s) = true := rfl
        have hon : notNew (pD o) = true := tr_nn (e := D.int) o
        generalize plD s = S at *
        generalize pD o = O at *
        generalize pD p = PP at *
        generalize bk N ws = BK at *
        generalize (pls.length : Int) = PN at *
        have hgt : gGtI M (.int K) (.int 9) = some (.bl true) := by rw [DL.gt_int, decide_eq_true c]
        simp [-DL.gt_int, hgt, -eV_e, eV_n, -eOwn_e, eOwn_n, -gD_e, gD_n, hPn, hPa, x1, hlp, hmd, hsx, hsa, hSn, hno, hon]
    · refine ⟨q, g, ?_⟩
      have hgt : gGtI M (.int K) (.int 9) = some (.bl false) := by rw [DL.gt_int, decide_eq_false c]
      generalize pD p = PP at *
      generalize pD q = Q at *
      generalize bk N ws = BK at *
      simp [-DL.gt_int, hgt]
  obtain ⟨q2, g2, hnode⟩ := hnode
  have hj := judged_eq (names := N) hw (p := q2) (g2.sm (by decide) (by decide))
  refine ⟨some (pD q2), z17, z18, z19, ?_⟩
  unfold law_b2
  have hqn : notNew (pD q2) = true := tr_nn (e := D.int) q2
  have hqa : argD M (pD q2) = some (pD q2) := arg_pD M q2
  have hba : argD M (bk N ws) = some (bk N ws) := arg_bk M N ws
  have hbn : notNew (bk N ws) = true := rfl
  have hwa : argD M (.ref 3) = some (.lst (ws.map rowD)) := by
    show (match M[3]? with
      | some (.lst ds) => if okAL ds then some (D.lst ds) else none
      | some (.ins C fs) => if okAF fs then some (.bor C fs) else none
      | none => none) = _
    rw [h3]
    exact if_pos (ok_row ws)
  generalize hW : D.lst (ws.map rowD) = WL at *
  generalize bk N ws = BK at *
  rw [sSeq_of (sd1 := ST a0 a1 a4 a5 a6 BK (pD p) N o10 (some (.int K)) (some (pD p)) o17 o18 o19) (μ1 := M) (by
    generalize pD p = PP at *
    simp [-eV_e, eV_n, -eOwn_e, eOwn_n, -gD_e, gD_n, hPn])]
  rw [sSeq_of hl, sSeq_of hnode]
  generalize pD p = PP at *
  generalize pD q2 = Q at *
  simp [-eV_e, eV_n, -eOwn_e, eOwn_n, -gD_e, gD_n, hqn, hqa, hba, hbn, hwa, hj]
/-- all twelve -/
theorem turns_eq (a0 a1 a4 a5 a6 : D) (N : Nat) (o10 o15 o16 o17 o18 o19 : Option D) (m0 m1 m2 : MO) (ws : List Rw) (hws : ws ≠ []) (hw : ∀ r ∈ ws, r.length ≤ 1000) (pls : List (List Int)) (mo : List Int) (hmo : mo.length = 60) (hdr : Dr mo) (p : Tr Int) (hpl : pls = plc p [])
    (hp : PO N 128 40 p) :
    ∃ (o15' o16' o17' o18' o19' : Option D), law_l2 (ST a0 a1 a4 a5 a6 (bk N ws) (pD p) N o10 o15 o16 o17 o18 o19) [m0, m1, m2, .lst (ws.map rowD), .lst (pls.map plD), .lst (mo.map D.int)]
      = some (.nx, ST a0 a1 a4 a5 a6 (bk N ws) (pD p) N o10 o15' o16' o17' o18' o19', [m0, m1, m2, .lst (ws.map rowD), .lst (pls.map plD), .lst (mo.map D.int)]) := by
  unfold law_l2
  rw [sFor_of (ds := (List.range 12).map (fun i : Nat => D.int i)) (chk := fun _ => True) (iR1_of (n := 12) (by simp) (by decide))]
  obtain ⟨sd2, μ2, h1, o15', o16', o17', o18', o19', rfl, rfl⟩ := loop_nx (chk := fun _ => True) (t := gD 15) (b := law_b2) (fun i : Nat => D.int i)
    (fun dn sd μ => ∃ (o15' o16' o17' o18' o19' : Option D), sd = ST a0 a1 a4 a5 a6 (bk N ws) (pD p) N o10 o15' o16' o17' o18' o19' ∧ μ = [m0, m1, m2, .lst (ws.map rowD), .lst (pls.map plD), .lst (mo.map D.int)]) (List.range 12) [] _ _ ⟨o15, o16, o17, o18, o19, rfl, rfl⟩ (by
      rintro dn x rest sd μ he ⟨x15, x16, x17, x18, x19, rfl, rfl⟩
      have hx : x < 12 := by
        have : x ∈ List.range 12 := by rw [show List.range 12 = dn ++ x :: rest from he]; simp
        simpa using this
      obtain ⟨y16, y17, y18, y19, e⟩ := rounds_eq a0 a1 a4 a5 a6 N o10 x16 x17 x18 x19 m0 m1 m2 ws hws hw pls mo hmo hdr p hpl hp x hx
      exact ⟨_, _, rfl, _, _, e, trivial, _, _, _, _, _, rfl, rfl⟩)
  exact ⟨_, _, _, _, _, h1⟩
end LK
set_option Elab.async false
set_option linter.all false
set_option maxRecDepth 100000
set_option maxHeartbeats 8000000
namespace LK
open PySem PySem.Spec PyProof.Rows L2 DL
/-! ### the wishes -/
abbrev S0 (a0 a1 aN a4 a5 a6 : D) (o10 : Option D) : Sl := [some a0, some a1, some aN, some (.ref 0), some a4, some a5, some a6, some (.ref 1), some (.ref 2), some (.ref 3), o10, none, none, none, none, none, none, none, none, none, none, none]
theorem b3_eq (a0 a1 aN a4 a5 a6 : D) (m0 m1 m2 : MO) (acc : List Rw) (r : Rw) (hl : acc.length ≤ 1000) : law_b3 (S0 a0 a1 aN a4 a5 a6 (some (rowD r))) [m0, m1, m2, .lst (acc.map rowD)] = some (.nx, S0 a0 a1 aN a4 a5 a6 (some (rowD r)), [m0, m1, m2, .lst ((if acc.getLast? = some r then acc else acc ++ [r]).map rowD)]) := by
  have happ : muAppend [m0, m1, m2, .lst (acc.map rowD)] (.ref 3) [rowD r] = some (.non, [m0, m1, m2, .lst ((acc ++ [r]).map rowD)]) := by
    rw [app_ref (n := 3) (es := acc.map rowD) rfl (by rw [List.length_map]; omega) rfl]
    simp
  have hil : isLst [m0, m1, m2, .lst (acc.map rowD)] (.ref 3) = some (acc.map rowD) := rfl
  have hlen : gLen [m0, m1, m2, .lst (acc.map rowD)] [.ref 3] = some (.int acc.length) := by rw [len_any (ds := acc.map rowD) rfl, List.length_map]
  have hRn : notNew (rowD r) = true := rfl
  unfold law_b3
  rcases List.eq_nil_or_concat acc with rfl | ⟨i, z, rfl⟩
  · rw [if_neg (by simp)]
    generalize rowD r = R at *
    have he : gEqD false [m0, m1, m2, .lst (([] : List Rw).map rowD)] (.int (([] : List Rw).length : Nat)) (.int 0) = some (.bl true) := by rw [DL.eq_int]; rfl
    generalize (([] : List Rw).map rowD) = A0 at *
    generalize ((([] : List Rw).length : Nat) : Int) = N0 at *
    generalize ([] ++ [r]).map rowD = A1 at *
    simp [-eV_e, eV_n, hRn, hlen, he, happ, hil]
  · have he : gEqD false [m0, m1, m2, .lst ((i.concat z).map rowD)] (.int ((i.concat z).length : Nat)) (.int 0) = some (.bl false) := by
      rw [DL.eq_int, decide_eq_false (by rw [List.length_concat]; omega)]; rfl
    have hx : gIx [m0, m1, m2, .lst ((i.concat z).map rowD)] (.ref 3) (.int (-1)) = some (rowD z) := by
      refine gIx_int (ds := (i.concat z).map rowD) (.inr rfl) ?_ fun es q => by cases q
      rw [List.concat_eq_append, List.map_append]
      exact L2.atI_last _ _
    have hne : gEqD true [m0, m1, m2, .lst ((i.concat z).map rowD)] (rowD z) (rowD r) = some (.bl (!decide (z = r))) := eq_en (α := Rw) true z r
    have hg : (i.concat z).getLast? = some z := by rw [List.concat_eq_append, List.getLast?_append, List.getLast?_singleton]; rfl
    rw [hg]
    have hzn : notNew (rowD z) = true := rfl
    generalize ((i.concat z).length : Int) = LN at *
    by_cases c : z = r
    · rw [if_pos (by rw [c])]
      rw [decide_eq_true c] at hne
      generalize ((i.concat z) ++ [r]).map rowD = A1 at *
      generalize (i.concat z).map rowD = A0 at *
      generalize rowD r = R at *
      generalize rowD z = Z at *
      simp [-eV_e, eV_n, hRn, hlen, he, hx, hne]
    · rw [if_neg (by simpa using c)]
      rw [decide_eq_false c] at hne
      generalize ((i.concat z) ++ [r]).map rowD = A1 at *
      generalize (i.concat z).map rowD = A0 at *
      generalize rowD r = R at *
      generalize rowD z = Z at *
      simp [-eV_e, eV_n, hRn, hlen, he, hx, hne, happ, hil]
theorem l3_eq (a0 a1 aN a4 a5 a6 : D) (m0 m1 : MO) (rows : List Rw) (hl : rows.length ≤ 900) : ∃ o10, law_l3 (S0 a0 a1 aN a4 a5 a6 none) [m0, m1, .lst (rows.map rowD), .lst []] = some (.nx, S0 a0 a1 aN a4 a5 a6 o10, [m0, m1, .lst (rows.map rowD), .lst ((uq [] rows).map rowD)]) := by
  have key : ∀ (l acc : List Rw) (o10 : Option D), acc.length + l.length ≤ 1000 → ∃ o10', loopF (fun μ' => μ'[2]? = some (.lst (rows.map rowD))) (gD 10) law_b3 (l.map rowD) (S0 a0 a1 aN a4 a5 a6 o10) [m0, m1, .lst (rows.map rowD), .lst (acc.map rowD)]
      = some (.nx, S0 a0 a1 aN a4 a5 a6 o10', [m0, m1, .lst (rows.map rowD), .lst ((uq acc l).map rowD)]) := by
    intro l
    induction l with
    | nil => intro acc o10 _; exact ⟨o10, rfl⟩
    | cons r l ih =>
      intro acc o10 h
      rw [List.length_cons] at h
      have hb := b3_eq a0 a1 aN a4 a5 a6 m0 m1 (.lst (rows.map rowD)) acc r (by omega)
      have hu : uq acc (r :: l) = uq (if acc.getLast? = some r then acc else acc ++ [r]) l := by
        rw [uq]
        split <;> rfl
      have hlen : (if acc.getLast? = some r then acc else acc ++ [r]).length + l.length ≤ 1000 := by
        split
        · omega
        · rw [List.length_append, List.length_singleton]; omega
      obtain ⟨o10', e⟩ := ih _ (some (rowD r)) hlen
      refine ⟨o10', ?_⟩
      rw [hu]
      have hgd : gD 10 (S0 a0 a1 aN a4 a5 a6 o10) [m0, m1, .lst (rows.map rowD), .lst (acc.map rowD)] (rowD r) = some (S0 a0 a1 aN a4 a5 a6 (some (rowD r)), [m0, m1, .lst (rows.map rowD), .lst (acc.map rowD)]) := rfl
      exact (loop_go (chk := fun μ' => μ'[2]? = some (.lst (rows.map rowD))) (sd1 := S0 a0 a1 aN a4 a5 a6 (some (rowD r))) (μ1 := [m0, m1, .lst (rows.map rowD), .lst (acc.map rowD)]) hgd hb rfl).trans e
  obtain ⟨o10, e⟩ := key rows [] none (by simpa using Nat.le_trans hl (by decide))
  refine ⟨o10, ?_⟩
  unfold law_l3
  have hit : iSeq (eV 8) (S0 a0 a1 aN a4 a5 a6 none) [m0, m1, .lst (rows.map rowD), .lst []] = some (.ok (rows.map rowD, fun μ' => μ'[2]? = some (.lst (rows.map rowD))), [m0, m1, .lst (rows.map rowD), .lst []]) := by
    generalize rows.map rowD = R at *
    simp [srcD]
  rw [sFor_of hit]
  exact e
end LK
set_option Elab.async false
set_option linter.all false
set_option maxRecDepth 100000
set_option maxHeartbeats 8000000
namespace LK
open PySem PySem.Spec PyProof.Rows L2 DL
abbrev SA (a0 a1 a2 : D) (o3 o4 o5 o6 o7 o8 o9 : Option D) : Sl := [some a0, some a1, some a2, o3, o4, o5, o6, o7, o8, o9, none, none, none, none, none, none, none, none, none, none, none, none]
/-- how deep, how narrow -/
structure DN (W : Int) (d : Nat) : Prop where
  h1 : d ≤ 98
  h2 : bd W d + (if W < 2 then 30 else 26) ≤ 128
theorem deep_eq (rest : SS) (a0 a2 a3 : D) (F : Int) (hF : 0 ≤ F) (M : Mem) : ∃ (W : Int) (d : Nat), DN W d ∧
    sSeq law_s5 (sSeq law_s6 (sSeq law_s7 rest)) (SA a0 (.int F) a2 (some a3) none none none none none none) M = rest (SA a0 (.int F) a2 (some a3) (some (.int W)) (some (.int d)) none none none none) M := by
  have d1 : gDivI M (.int F) (.int 45) = some (.int (F / 45)) := div_int ⟨by decide, by decide⟩
  have d2 : gDivI M (.int F) (.int 135) = some (.int (F / 135)) := div_int ⟨by decide, by decide⟩
  have d3 : gDivI M (.int F) (.int 3375) = some (.int (F / 3375)) := div_int ⟨by decide, by decide⟩
  have d4 : gDivI M (.int F) (.int 13500) = some (.int (F / 13500)) := div_int ⟨by decide, by decide⟩
  have m1 : gModI M (.int (F / 45)) (.int 3) = some (.int (F / 45 % 3)) := mod_int (by decide)
  have m2 : gModI M (.int (F / 135)) (.int 25) = some (.int (F / 135 % 25)) := mod_int (by decide)
  have m2b : gModI M (.int (F / 135)) (.int 3) = some (.int (F / 135 % 3)) := mod_int (by decide)
  have m3 : gModI M (.int (F / 3375)) (.int 4) = some (.int (F / 3375 % 4)) := mod_int (by decide)
  have m4 : gModI M (.int (F / 13500)) (.int 74) = some (.int (F / 13500 % 74)) := mod_int (by decide)
  have ib : ∀ b, gIntA M [.bl b] = some (.int (if b then 1 else 0)) := fun b => rfl
  have e1 : gEqD false M (.int (F / 45 % 3)) (.int 1) = some (.bl (decide (F / 45 % 3 = 1))) := by rw [DL.eq_int]; rfl
  have e3 : gEqD false M (.int (F / 3375 % 4)) (.int 1) = some (.bl (decide (F / 3375 % 4 = 1))) := by rw [DL.eq_int]; rfl
  by_cases c1 : F / 45 % 3 = 1
  · rw [decide_eq_true c1] at e1
    obtain ⟨d, hd⟩ := Int.eq_ofNat_of_zero_le (show 0 ≤ F / 135 % 25 by omega)
    have hd24 : d ≤ 24 := by omega
    rw [hd] at m2
    have h5 : law_s5 (SA a0 (.int F) a2 (some a3) none none none none none none) M = some (.nx, SA a0 (.int F) a2 (some a3) (some (.int 1)) none none none none none, M) := by
      unfold law_s5
      simp [d1, m1, e1, ib]
    have h6 : law_s6 (SA a0 (.int F) a2 (some a3) (some (.int 1)) none none none none none) M = some (.nx, SA a0 (.int F) a2 (some a3) (some (.int 1)) (some (.int d)) none none none none, M) := by
      unfold law_s6
      simp [d2, m2]
    rw [sSeq_of h5, sSeq_of h6]
    by_cases c2 : F / 3375 % 4 = 1
    · rw [decide_eq_true c2] at e3
      obtain ⟨d', hd'⟩ := Int.eq_ofNat_of_zero_le (show 0 ≤ F / 13500 % 74 by omega)
      rw [hd'] at m4
      have hd74 : d' ≤ 73 := by omega
      refine ⟨2, 25 + d', ⟨by omega, ?_⟩, ?_⟩
      · unfold bd
        rw [if_pos (by decide), if_neg (by decide)]
        omega
      · have h7 : law_s7 (SA a0 (.int F) a2 (some a3) (some (.int 1)) (some (.int d)) none none none none) M = some (.nx, SA a0 (.int F) a2 (some a3) (some (.int 2)) (some (.int ((25 + d' : Nat) : Int))) none none none none, M) := by
          unfold law_s7
          simp [d3, m3, e3, d4, m4]
        rw [sSeq_of h7]
    · rw [decide_eq_false c2] at e3
      refine ⟨1, d, ⟨by omega, ?_⟩, ?_⟩
      · unfold bd
        rw [if_pos (by decide), if_pos (by decide)]
        omega
      · have h7 : law_s7 (SA a0 (.int F) a2 (some a3) (some (.int 1)) (some (.int d)) none none none none) M = some (.nx, SA a0 (.int F) a2 (some a3) (some (.int 1)) (some (.int d)) none none none none, M) := by
          unfold law_s7
          simp [d3, m3, e3]
        rw [sSeq_of h7]
  · rw [decide_eq_false c1] at e1
    obtain ⟨d, hd⟩ := Int.eq_ofNat_of_zero_le (show 0 ≤ F / 135 % 3 by omega)
    have hd2 : d ≤ 2 := by omega
    rw [hd] at m2b
    have h5 : law_s5 (SA a0 (.int F) a2 (some a3) none none none none none none) M = some (.nx, SA a0 (.int F) a2 (some a3) (some (.int 0)) none none none none none, M) := by
      unfold law_s5
      simp [d1, m1, e1, ib]
    have h6 : law_s6 (SA a0 (.int F) a2 (some a3) (some (.int 0)) none none none none none) M = some (.nx, SA a0 (.int F) a2 (some a3) (some (.int 0)) (some (.int ((3 + d : Nat) : Int))) none none none none, M) := by
      unfold law_s6
      simp [d2, m2b]
    rw [sSeq_of h5, sSeq_of h6]
    refine ⟨0, 3 + d, ⟨by omega, ?_⟩, ?_⟩
    · unfold bd
      rw [if_neg (by decide), if_pos (by decide)]
      have : d = 0 ∨ d = 1 ∨ d = 2 := by omega
      rcases this with rfl | rfl | rfl <;> decide
    · have h7 : law_s7 (SA a0 (.int F) a2 (some a3) (some (.int 0)) (some (.int ((3 + d : Nat) : Int))) none none none none) M = some (.nx, SA a0 (.int F) a2 (some a3) (some (.int 0)) (some (.int ((3 + d : Nat) : Int))) none none none none, M) := by
        unfold law_s7
        simp
      rw [sSeq_of h7]
theorem cut_cells (μ : Mem) (ns : List Int) (k : Nat) (hk : 2 ≤ k) : ∃ cs : List Int, gSl μ (.lck (ns.map D.int)) (some 2) (some k) = some (.new (cs.map D.int)) ∧ cs.length ≤ k - 2 := by
  refine ⟨(ns.drop (HT.sIx (ns.map D.int).length 0 (some 2))).take (HT.sIx (ns.map D.int).length (ns.map D.int).length (some k) - HT.sIx (ns.map D.int).length 0 (some 2)), ?_, ?_⟩
  · show some (D.new (DL.cutD (ns.map D.int) _ _)) = _
    unfold DL.cutD
    rw [← List.map_drop, ← List.map_take]
  · rw [List.length_take, List.length_drop]
    have h1 := HT.sIx_nat (ns.map D.int).length (ns.map D.int).length k
    have h2 := HT.sIx_nat (ns.map D.int).length 0 2
    rw [h1, show (some (2 : Int)) = some ((2 : Nat) : Int) from rfl, h2, List.length_map]
    omega
theorem free_eq (a0 a1 a2 : D) (ns : List Int) (W : Int) (o3 o5 o6 : Option D) (m0 : MO) : ∃ cs : List Int, cs.length ≤ (if W < 2 then 30 else 26) ∧ law_s9 (SA (.lck (ns.map D.int)) a1 a2 o3 (some (.int W)) o5 o6 none none none) [m0] = some (.nx, SA (.lck (ns.map D.int)) a1 a2 o3 (some (.int W)) o5 o6 (some (.ref 1)) none none, [m0, .lst (cs.map D.int)]) := by
  obtain ⟨x, hx1, hx2⟩ := cut_cells [m0] ns 32 (by decide)
  obtain ⟨y, hy1, hy2⟩ := cut_cells [m0] ns 28 (by decide)
  have hx1 : gSl [m0] (.lck (ns.map D.int)) (some 2) (some 32) = some (.new (x.map D.int)) := hx1
  have hy1 : gSl [m0] (.lck (ns.map D.int)) (some 2) (some 28) = some (.new (y.map D.int)) := hy1
  unfold law_s9
  have hn : notNew (D.lck (ns.map D.int)) = true := rfl
  generalize D.lck (ns.map D.int) = LC at *
  by_cases c : W < 2
  · refine ⟨x, by rw [if_pos c]; exact hx2, ?_⟩
    have hlt : gLtI [m0] (.int W) (.int 2) = some (.bl true) := by rw [DL.lt_int, decide_eq_true c]
    simp [-DL.lt_int, hlt, -eV_e, eV_n, -eOwn_e, eOwn_n, hn, hx1]
  · refine ⟨y, by rw [if_neg c]; exact hy2, ?_⟩
    have hlt : gLtI [m0] (.int W) (.int 2) = some (.bl false) := by rw [DL.lt_int, decide_eq_false c]
    simp [-DL.lt_int, hlt, -eV_e, eV_n, -eOwn_e, eOwn_n, hn, hy1]
/-- the rows, sorted -/
theorem rows_eq (a0 a1 : D) (N : Nat) (l : List Int) (cs : List Int) (t : Tr Rw) (o4 o5 : Option D) (hg : Gd N [] t) (hd : dp t ≤ 98) (hc : cnt t ≤ 128) (hcs : cs.length ≤ 30) : ∃ wl : List Rw, wl.length = cs.length ∧ (∀ r ∈ wl, RR N r) ∧
    law_s10 (SA a0 a1 (.int N) (some (.ref 0)) o4 o5 (some (rD t)) (some (.ref 1)) none none) [.lst (l.map D.int), .lst (cs.map D.int)] = some (.nx, SA a0 a1 (.int N) (some (.ref 0)) o4 o5 (some (rD t)) (some (.ref 1)) (some (.ref 2)) none, [.lst (l.map D.int), .lst (cs.map D.int), .lst (((lvs t ++ wl).mergeSort leE).map rowD)]) := by
  have hw : ∀ c : Int, ∃ r : Rw, m__law_wish [.int c, .int (min N 5 : Nat)] = some (.ok (rowD r)) ∧ RR (min N 5 : Nat) r := fun c => wish_eq c (min N 5) (by omega)
  have hw := Classical.axiomOfChoice hw
  obtain ⟨f, hf⟩ := hw
  refine ⟨cs.map f, List.length_map _, fun r hr => ?_, ?_⟩
  · obtain ⟨c, _, rfl⟩ := List.mem_map.mp hr
    exact (hf c).2.mono (by omega)
  obtain ⟨M, hM⟩ : ∃ M : Mem, M = [.lst (l.map D.int), .lst (cs.map D.int)] := ⟨_, rfl⟩
  have hmin : gMin2 M [.int N, .int 5] = some (.int (min N 5 : Nat)) := by
    show some (D.int (if (5 : Int) < N then 5 else N)) = _
    congr 2
    split <;> omega
  have h1 : M[1]? = some (.lst (cs.map D.int)) := by rw [hM]; rfl
  have hit : iSeq (eV 7) (SA a0 a1 (.int N) (some (.ref 0)) o4 o5 (some (rD t)) (some (.ref 1)) none none) M = some (.ok (cs.map D.int, fun μ' => μ'[1]? = some (.lst (cs.map D.int))), M) := by
    generalize cs.map D.int = CS at *
    simp [srcD, h1]
  have hc2 : law_c2 (SA a0 a1 (.int N) (some (.ref 0)) o4 o5 (some (rD t)) (some (.ref 1)) none none) M = some (.ok (.new ((cs.map f).map rowD)), M) := by
    unfold law_c2
    rw [List.map_map]
    refine eLc_all (chk := fun μ' => μ'[1]? = some (.lst (cs.map D.int))) cs D.int (rowD ∘ f) hit rfl (by omega) h1 ?_
    intro c _
    refine ⟨_, rfl, ?_, rfl⟩
    have e := (hf c).1
    show _ = some (Except.ok (rowD (f c)), M)
    generalize rowD (f c) = R at *
    simp [wipeD, hmin, e]
  have hl := leafRows_eq (e := rowD) (fun r => ok_wd r) (fun r => pl_wd r) (fun r => rfl) 110 t (by omega) (by omega)
  have hll := lvs_len t
  have hadd : gAdd M (.new ((lvs t).map rowD)) (.new ((cs.map f).map rowD)) = some (.new ((lvs t ++ cs.map f).map rowD)) := by
    rw [add_nn (by simp; omega), ← List.map_append]
  have hs : gSort M [.new ((lvs t ++ cs.map f).map rowD)] = some (.new (((lvs t ++ cs.map f).mergeSort leE).map rowD)) := sort_rows (μ := M) (x := .new ((lvs t ++ cs.map f).map rowD)) (lvs t ++ cs.map f) rfl
  have hta : argD M (rD t) = some (rD t) := arg_of (rD_ok t)
  have htn : notNew (rD t) = true := tr_nn t
  unfold law_s10
  have hown : ownR (.new (((lvs t ++ cs.map f).mergeSort leE).map rowD)) M = some (.ok (.ref 2), [.lst (l.map D.int), .lst (cs.map D.int), .lst (((lvs t ++ cs.map f).mergeSort leE).map rowD)]) := by rw [hM]; rfl
  rw [← hM]
  have hl : m__law_leaf_rows 110 [rD t] = some (.ok (.new ((lvs t).map rowD))) := hl
  generalize ((lvs t ++ cs.map f).mergeSort leE).map rowD = RS at *
  generalize (lvs t ++ cs.map f).map rowD = R1 at *
  generalize (lvs t).map rowD = R2 at *
  generalize (cs.map f).map rowD = R3 at *
  generalize rD t = T at *
  simp [-ownR_new, -eV_e, eV_n, -eOwn_e, eOwn_n, -gD_e, gD_n, htn, hta, hl, hc2, hadd, hs, hown]
end LK
set_option Elab.async false
set_option linter.all false
set_option maxRecDepth 100000
set_option maxHeartbeats 8000000
namespace LK
open PySem PySem.Spec PyProof.Rows L2 DL
theorem names_eq (ns : List Int) (h : ns.length ≤ 63) (rest : SS) : ∃ (F : Int) (N : Nat), 0 ≤ F ∧ N ≤ 40 ∧
    sSeq law_s1 (sSeq law_s2 (sSeq law_s3 rest)) [some (.lck (ns.map D.int)), none, none, none, none, none, none, none, none, none, none, none, none, none, none, none, none, none, none, none, none, none] [] = rest (SA (.lck (ns.map D.int)) (.int F) (.int N) none none none none none none none) [] := by
  obtain ⟨c0, h0⟩ := cell_eq ns 0 h
  have h0 : m__law_cell [.lck (ns.map D.int), .int 0] = some (.ok (.int c0)) := h0
  have ho : okAL (ns.map D.int) = true := okI ns
  have ha : argD [] (.lck (ns.map D.int)) = some (.lck (ns.map D.int)) := if_pos ho
  have hn : notNew (D.lck (ns.map D.int)) = true := rfl
  generalize D.lck (ns.map D.int) = LC at *
  have hF : 0 ≤ (if c0 < 0 then -c0 else c0) := by split <;> omega
  have h1 : law_s1 [some LC, none, none, none, none, none, none, none, none, none, none, none, none, none, none, none, none, none, none, none, none, none] [] = some (.nx, [some LC, some (.int (if c0 < 0 then -c0 else c0)), none, none, none, none, none, none, none, none, none, none, none, none, none, none, none, none, none, none, none, none], []) := by
    unfold law_s1
    simp [-eV_e, eV_n, hn, ha, h0]
  rw [sSeq_of h1]
  generalize (if c0 < 0 then -c0 else c0) = F at *
  have m1 : gModI [] (.int F) (.int 5) = some (.int (F % 5)) := mod_int (by decide)
  have d1 : gDivI [] (.int F) (.int 5) = some (.int (F / 5)) := div_int ⟨by decide, by decide⟩
  have m2 : gModI [] (.int (F / 5)) (.int 9) = some (.int (F / 5 % 9)) := mod_int (by decide)
  have e1 : gEqD false [] (.int (F / 5 % 9)) (.int 1) = some (.bl (decide (F / 5 % 9 = 1))) := by rw [DL.eq_int]; rfl
  obtain ⟨n, hn5⟩ := Int.eq_ofNat_of_zero_le (show 0 ≤ F % 5 by omega)
  have hn4 : n ≤ 4 := by omega
  rw [hn5] at m1
  have h2 : law_s2 [some LC, some (.int F), none, none, none, none, none, none, none, none, none, none, none, none, none, none, none, none, none, none, none, none] [] = some (.nx, SA LC (.int F) (.int n) none none none none none none none, []) := by
    unfold law_s2
    simp [m1]
  rw [sSeq_of h2]
  by_cases c : F / 5 % 9 = 1
  · rw [decide_eq_true c] at e1
    refine ⟨F, 40, hF, by decide, ?_⟩
    have h3 : law_s3 (SA LC (.int F) (.int n) none none none none none none none) [] = some (.nx, SA LC (.int F) (.int (40 : Nat)) none none none none none none none, []) := by
      unfold law_s3
      simp [d1, m2, e1]
    rw [sSeq_of h3]
  · rw [decide_eq_false c] at e1
    refine ⟨F, n, hF, by omega, ?_⟩
    have h3 : law_s3 (SA LC (.int F) (.int n) none none none none none none none) [] = some (.nx, SA LC (.int F) (.int n) none none none none none none none, []) := by
      unfold law_s3
      simp [d1, m2, e1]
    rw [sSeq_of h3]
abbrev S3 (a0 a1 aN a4 a5 a6 : D) (o10 o11 o12 o13 o14 : Option D) : Sl := [some a0, some a1, some aN, some (.ref 0), some a4, some a5, some a6, some (.ref 1), some (.ref 2), some (.ref 3), o10, o11, o12, o13, o14, none, none, none, none, none, none, none]
theorem lstArg {M : Mem} {n : Nat} {ds : List D} (h : M[n]? = some (.lst ds)) (ho : okAL ds = true) : argD M (.ref n) = some (.lst ds) := by
  show (match M[n]? with
    | some (.lst ds) => if okAL ds then some (D.lst ds) else none
    | some (.ins C fs) => if okAF fs then some (.bor C fs) else none
    | none => none) = _
  rw [h]
  exact if_pos ho
theorem book_made (a0 a1 a4 a5 a6 : D) (N : Nat) (hN : N ≤ 40) (o10 : Option D) (m0 m1 m2 : MO) (ws : List Rw) (hw : ∀ r ∈ ws, RR N r) (hp : ws.Pairwise fun a b => leE a b = true) (hn : ws.Nodup) (hl : ws.length ≤ 128) :
    law_s13 (S3 a0 a1 (.int N) a4 a5 a6 o10 none none none none) [m0, m1, m2, .lst (ws.map rowD)] = some (.nx, S3 a0 a1 (.int N) a4 a5 a6 o10 (some (bk N ws)) none none none, [m0, m1, m2, .lst (ws.map rowD)]) := by
  obtain ⟨M, hM⟩ : ∃ M : Mem, M = [m0, m1, m2, .lst (ws.map rowD)] := ⟨_, rfl⟩
  have h3 : M[3]? = some (.lst (ws.map rowD)) := by rw [hM]; rfl
  rw [← hM]
  have hit : iSeq (eV 9) (S3 a0 a1 (.int N) a4 a5 a6 o10 none none none none) M = some (.ok (ws.map rowD, fun μ' => μ'[3]? = some (.lst (ws.map rowD))), M) := by
    generalize ws.map rowD = R at *
    simp [srcD, h3]
  have hc : law_c1 (S3 a0 a1 (.int N) a4 a5 a6 o10 none none none none) M = some (.ok (.new (ws.map fun r => .fr (r.map wd))), M) := by
    unfold law_c1
    refine eLc_all (chk := fun μ' => μ'[3]? = some (.lst (ws.map rowD))) ws rowD (fun r => .fr (r.map wd)) hit rfl (by omega) h3 ?_
    intro r _
    refine ⟨_, rfl, ?_, rfl⟩
    have hli : gList M [rowD r] = some (.new (r.map wd)) := rfl
    show _ = some (Except.ok (frzD (.new (r.map wd))), M)
    generalize r.map wd = RW at *
    simp [wipeD, hli]
  have ha := argsM_book M N ws
  have hb := book_eq N hN ws hw hp hn hl
  have hbn : notNew (bk N ws) = true := rfl
  generalize bk N ws = BK at *
  generalize (D.new (ws.map fun r => .fr (r.map wd))) = NW at *
  generalize D.lst (ws.map lsD) = LW at *
  unfold law_s13
  simp [-eOwn_e, eOwn_n, -gD_e, gD_n, hc, ha, hb, hbn]
theorem law_true (ns : List Int) (h : ns.length ≤ 63) : m_law [.lck (ns.map D.int)] = some (.ok (.bl true)) := by
  unfold m_law b_law
  rw [runF_def]
  simp only [List.map_cons, List.map_nil, List.length_cons, List.length_nil, List.cons_append, List.nil_append, Nat.zero_add, Nat.reduceAdd, Nat.reduceSub, List.reduceReplicate]
  have ho : okAL (ns.map D.int) = true := okI ns
  have ha : ∀ M, argD M (.lck (ns.map D.int)) = some (.lck (ns.map D.int)) := fun M => if_pos ho
  have hn : notNew (D.lck (ns.map D.int)) = true := rfl
  obtain ⟨F, N, hF, hN, e123⟩ := names_eq ns h (sSeq (law_s4) (sSeq (law_s5) (sSeq (law_s6) (sSeq (law_s7) (sSeq (law_s8) (sSeq (law_s9) (sSeq (law_s10) (sSeq (law_s11) (sSeq (law_l3) (sSeq (law_s13) (sSeq (law_s14) (sSeq (law_s15) (sSeq (law_s16) (sSeq (law_s17) (sSeq (law_l2) (sRet (eBin (gIsN false) (eCall (m_line_tree_fault) 2 (eCons (eV 11) (eCons (eV 12) (eNil)))) (eC .non))))))))))))))))))
  rw [e123]
  clear e123
  -- the draws
  obtain ⟨c1, hs1⟩ := seed_eq ns 1 h (by decide)
  have hs1 : m__law_seed [.lck (ns.map D.int), .int 1] = some (.ok (.int c1)) := hs1
  obtain ⟨l, hdr, hl64, hD⟩ := draws_eq c1 64 (by decide)
  have hdr : m__law_draws [.int c1, .int 64] = some (.ok (.new (l.map D.int))) := hdr
  have h4 : law_s4 (SA (.lck (ns.map D.int)) (.int F) (.int N) none none none none none none none) [] = some (.nx, SA (.lck (ns.map D.int)) (.int F) (.int N) (some (.ref 0)) none none none none none none, [.lst (l.map D.int)]) := by
    unfold law_s4
    generalize D.lck (ns.map D.int) = LC at *
    generalize l.map D.int = L at *
    simp [-eV_e, eV_n, -eOwn_e, eOwn_n, hn, ha, hs1, hdr]
  rw [sSeq_of h4]
  obtain ⟨W, d, ⟨hd98, hbd⟩, e567⟩ := deep_eq (sSeq (law_s8) (sSeq (law_s9) (sSeq (law_s10) (sSeq (law_s11) (sSeq (law_l3) (sSeq (law_s13) (sSeq (law_s14) (sSeq (law_s15) (sSeq (law_s16) (sSeq (law_s17) (sSeq (law_l2) (sRet (eBin (gIsN false) (eCall (m_line_tree_fault) 2 (eCons (eV 11) (eCons (eV 12) (eNil)))) (eC .non)))))))))))))) (.lck (ns.map D.int)) (.int N) (.ref 0) F hF [.lst (l.map D.int)]
  rw [e567]
  clear e567
  -- the tree
  have hbd128 : bd W d ≤ 128 := by omega
  obtain ⟨t, at', hgrow, hGd, hdp, hcnt, _⟩ := grow_eq l (by intro z; rw [z] at hl64; cases hl64) (by omega) hD N hN W 110 d [] 0 ⟨List.Pairwise.nil, fun a q => by cases q⟩ (by omega) (by decide) (by omega)
  have hgrow : m__law_grow 110 [.lst (l.map D.int), .int N, .tup [], .int d, .int W, .int 0] = some (.ok (.tup [rD t, .int at'])) := hgrow
  have htn : notNew (rD t) = true := tr_nn t
  have h8 : law_s8 (SA (.lck (ns.map D.int)) (.int F) (.int N) (some (.ref 0)) (some (.int W)) (some (.int d)) none none none none) [.lst (l.map D.int)] = some (.nx, SA (.lck (ns.map D.int)) (.int F) (.int N) (some (.ref 0)) (some (.int W)) (some (.int d)) (some (rD t)) none none none, [.lst (l.map D.int)]) := by
    have hx : ∀ M, gIx M (.tup [rD t, .int at']) (.int 0) = some (rD t) := fun M => ix_k 0 rfl rfl htn
    have hla : argD [.lst (l.map D.int)] (.ref 0) = some (.lst (l.map D.int)) := if_pos (ok_int l)
    have h0a : argD [.lst (l.map D.int)] (.tup []) = some (.tup []) := rfl
    unfold law_s8
    generalize D.lst (l.map D.int) = L at *
    generalize D.lck (ns.map D.int) = LC at *
    generalize rD t = T at *
    simp [-eOwn_e, eOwn_n, -gD_e, gD_n, hla, h0a, hgrow, hx, htn]
  rw [sSeq_of h8]
  obtain ⟨cs, hcs, h9⟩ := free_eq (.lck (ns.map D.int)) (.int F) (.int N) ns W (some (.ref 0)) (some (.int d)) (some (rD t)) (.lst (l.map D.int))
  rw [sSeq_of h9]
  have hcs30 : cs.length ≤ 30 := Nat.le_trans hcs (by split <;> decide)
  obtain ⟨wl, hwl, hwR, h10⟩ := rows_eq (.lck (ns.map D.int)) (.int F) N l cs t (some (.int W)) (some (.int d)) hGd (by omega) (by omega) hcs30
  rw [sSeq_of h10]
  obtain ⟨rows, hrows⟩ : ∃ rows : List Rw, rows = (lvs t ++ wl).mergeSort leE := ⟨_, rfl⟩
  rw [← hrows]
  have hperm : rows.Perm (lvs t ++ wl) := by rw [hrows]; exact List.mergeSort_perm _ leE
  have hpw : rows.Pairwise fun a b => leE a b = true := by rw [hrows]; exact PySem.W.sort_pairwise (leE_total (α := Rw)) (lvs t ++ wl)
  have hrl : rows.length ≤ 128 := by
    rw [hperm.length_eq, List.length_append, lvs_len, hwl]
    omega
  have hrR : ∀ r ∈ rows, RR N r := fun r hr => by
    rcases List.mem_append.mp (hperm.mem_iff.mp hr) with q | q
    · exact hGd.leaf r q
    · exact hwR r q
  have hlvr : ∀ r ∈ lvs t, r ∈ rows := fun r hr => hperm.mem_iff.mpr (List.mem_append.mpr (.inl hr))
  clear h10 hrows hperm
  have h11 : law_s11 (SA (.lck (ns.map D.int)) (.int F) (.int N) (some (.ref 0)) (some (.int W)) (some (.int d)) (some (rD t)) (some (.ref 1)) (some (.ref 2)) none) [.lst (l.map D.int), .lst (cs.map D.int), .lst (rows.map rowD)] = some (.nx, S0 (.lck (ns.map D.int)) (.int F) (.int N) (.int W) (.int d) (rD t) none, [.lst (l.map D.int), .lst (cs.map D.int), .lst (rows.map rowD), .lst []]) := by
    unfold law_s11
    generalize D.lck (ns.map D.int) = LC at *
    generalize rD t = T at *
    simp
  rw [sSeq_of h11]
  obtain ⟨o10, h12⟩ := l3_eq (.lck (ns.map D.int)) (.int F) (.int N) (.int W) (.int d) (rD t) (.lst (l.map D.int)) (.lst (cs.map D.int)) rows (by omega)
  rw [sSeq_of h12]
  obtain ⟨u1, u2, u3, u4⟩ := uq_spec rows [] (by simpa using hpw) List.nodup_nil (fun a q => by cases q)
  generalize uq [] rows = ws at *
  have hwsR : ∀ r ∈ ws, RR N r := fun r hr => by
    rcases (u3 r).mp hr with q | q
    · cases q
    · exact hrR r q
  have hwsl : ∀ r ∈ ws, r.length ≤ 1000 := fun r hr => by have := (hwsR r hr).len; omega
  have hws128 : ws.length ≤ 128 := by simp at u4; omega
  have hlv : ∀ r ∈ lvs t, r ∈ ws := fun r hr => (u3 r).mpr (.inr (hlvr r hr))
  have hwsne : ws ≠ [] := by
    have h1 := cnt_pos t
    rw [← lvs_len] at h1
    obtain ⟨r, hr⟩ := List.exists_mem_of_length_pos (show 0 < (lvs t).length by omega)
    exact List.ne_nil_of_mem (hlv r hr)
  clear h12 h11 u3 u4 hrR hlvr hpw
  have h13 := book_made (.lck (ns.map D.int)) (.int F) (.int W) (.int d) (rD t) N hN o10 (.lst (l.map D.int)) (.lst (cs.map D.int)) (.lst (rows.map rowD)) ws hwsR u1 u2 hws128
  rw [sSeq_of h13]
  -- the paper
  obtain ⟨p, hix, hIx⟩ := indexed_eq ws 110 t (by omega) hlv
  obtain ⟨i1, i2⟩ := hIx.dp
  have hPO : PO N 128 40 p := ⟨by omega, by omega, hIx.lb (by omega) hGd, fun z => by
    subst z
    cases t with
    | w row =>
      cases p with
      | w i => exact ⟨i, rfl⟩
      | f _ _ _ _ => cases hIx
    | f n line a b =>
      obtain ⟨_, _, g3, g4, _⟩ := hGd
      exfalso
      have g4 : n ≤ ((0 : Nat) : Int) := g4
      omega⟩
  have hltf := right_ltf hGd hIx
  have hsm := hPO.sm (by decide) (by decide)
  have hdue := due_eq (names := N) hwsl hsm
  have hft := ltf_eq (names := N) hwsl hsm
  rw [hltf] at hdue hft
  have hju := judged_eq (names := N) hwsl hsm
  obtain ⟨m0, hm0⟩ : ∃ m0 : MO, m0 = .lst (l.map D.int) := ⟨_, rfl⟩
  obtain ⟨m1, hm1⟩ : ∃ m1 : MO, m1 = .lst (cs.map D.int) := ⟨_, rfl⟩
  obtain ⟨m2, hm2⟩ : ∃ m2 : MO, m2 = .lst (rows.map rowD) := ⟨_, rfl⟩
  rw [← hm0, ← hm1, ← hm2]
  have hwa : argD [m0, m1, m2, .lst (ws.map rowD)] (.ref 3) = some (.lst (ws.map rowD)) := lstArg rfl (ok_row ws)
  have hta : argD [m0, m1, m2, .lst (ws.map rowD)] (rD t) = some (rD t) := arg_of (rD_ok t)
  have hPn : notNew (pD p) = true := tr_nn (e := D.int) p
  have h14 : law_s14 (S3 (.lck (ns.map D.int)) (.int F) (.int N) (.int W) (.int d) (rD t) o10 (some (bk N ws)) none none none) [m0, m1, m2, .lst (ws.map rowD)] = some (.nx, S3 (.lck (ns.map D.int)) (.int F) (.int N) (.int W) (.int d) (rD t) o10 (some (bk N ws)) (some (pD p)) none none, [m0, m1, m2, .lst (ws.map rowD)]) := by
    unfold law_s14
    generalize D.lst (ws.map rowD) = WL at *
    generalize D.lck (ns.map D.int) = LC at *
    generalize bk N ws = BK at *
    generalize rD t = T at *
    generalize pD p = P at *
    simp [-eV_e, eV_n, -eOwn_e, eOwn_n, -gD_e, gD_n, htn, hta, hwa, hix, hPn]
  rw [sSeq_of h14]
  have hba : argD [m0, m1, m2, .lst (ws.map rowD)] (bk N ws) = some (bk N ws) := arg_bk _ N ws
  have hpa : ∀ M, argD M (pD p) = some (pD p) := fun M => arg_pD M p
  have hbn : notNew (bk N ws) = true := rfl
  have hdue : m__law_due [.int N, .lst (ws.map rowD), pD p] = some (.ok .non) := hdue
  have hft : m_line_tree_fault [bk N ws, pD p] = some (.ok .non) := hft
  have h15 : law_s15 (S3 (.lck (ns.map D.int)) (.int F) (.int N) (.int W) (.int d) (rD t) o10 (some (bk N ws)) (some (pD p)) none none) [m0, m1, m2, .lst (ws.map rowD)] = some (.nx, S3 (.lck (ns.map D.int)) (.int F) (.int N) (.int W) (.int d) (rD t) o10 (some (bk N ws)) (some (pD p)) none none, [m0, m1, m2, .lst (ws.map rowD)]) := by
    have hnn : gIsN true [m0, m1, m2, .lst (ws.map rowD)] .non .non = some (.bl false) := rfl
    unfold law_s15
    generalize D.lst (ws.map rowD) = WL at *
    generalize D.lck (ns.map D.int) = LC at *
    generalize bk N ws = BK at *
    generalize rD t = T at *
    generalize pD p = P at *
    simp [-eV_e, eV_n, -eOwn_e, eOwn_n, hPn, hbn, hba, hpa, hwa, hdue, hju, hnn]
  rw [sSeq_of h15]
  have hdp98 := hPO.d
  have hc128 := hPO.c
  have hpl := places_eq 110 p [] (by omega) (by simp; omega) (by omega)
  have hpl : m__law_places 110 [pD p, .tup []] = some (.ok (.new ((plc p []).map plD))) := hpl
  have h16 : law_s16 (S3 (.lck (ns.map D.int)) (.int F) (.int N) (.int W) (.int d) (rD t) o10 (some (bk N ws)) (some (pD p)) none none) [m0, m1, m2, .lst (ws.map rowD)] = some (.nx, S3 (.lck (ns.map D.int)) (.int F) (.int N) (.int W) (.int d) (rD t) o10 (some (bk N ws)) (some (pD p)) (some (.ref 4)) none, [m0, m1, m2, .lst (ws.map rowD), .lst ((plc p []).map plD)]) := by
    have h0a : argD [m0, m1, m2, .lst (ws.map rowD)] (.tup []) = some (.tup []) := rfl
    unfold law_s16
    generalize (plc p []).map plD = PL at *
    generalize D.lck (ns.map D.int) = LC at *
    generalize bk N ws = BK at *
    generalize rD t = T at *
    generalize pD p = P at *
    simp [-eV_e, eV_n, -eOwn_e, eOwn_n, -gD_e, gD_n, hPn, hpa, h0a, hpl]
  rw [sSeq_of h16]
  obtain ⟨c2, hs2⟩ := seed_eq ns 2 h (by decide)
  have hs2 : m__law_seed [.lck (ns.map D.int), .int 2] = some (.ok (.int c2)) := hs2
  obtain ⟨mo, hdr2, hmo, hD2⟩ := draws_eq c2 60 (by decide)
  have hdr2 : m__law_draws [.int c2, .int 60] = some (.ok (.new (mo.map D.int))) := hdr2
  have h17 : law_s17 (S3 (.lck (ns.map D.int)) (.int F) (.int N) (.int W) (.int d) (rD t) o10 (some (bk N ws)) (some (pD p)) (some (.ref 4)) none) [m0, m1, m2, .lst (ws.map rowD), .lst ((plc p []).map plD)] = some (.nx, ST (.lck (ns.map D.int)) (.int F) (.int W) (.int d) (rD t) (bk N ws) (pD p) N o10 none none none none none, [m0, m1, m2, .lst (ws.map rowD), .lst ((plc p []).map plD), .lst (mo.map D.int)]) := by
    unfold law_s17
    generalize (plc p []).map plD = PL at *
    generalize D.lck (ns.map D.int) = LC at *
    generalize bk N ws = BK at *
    generalize rD t = T at *
    generalize pD p = P at *
    generalize mo.map D.int = MOL at *
    simp [-eV_e, eV_n, -eOwn_e, eOwn_n, -gD_e, gD_n, hn, ha, hs2, hdr2]
  rw [sSeq_of h17]
  obtain ⟨x15, x16, x17, x18, x19, hl2⟩ := turns_eq (.lck (ns.map D.int)) (.int F) (.int W) (.int d) (rD t) N o10 none none none none none m0 m1 m2 ws hwsne hwsl (plc p []) mo hmo hD2 p rfl hPO
  rw [sSeq_of hl2]
  have hba2 : ∀ M, argD M (bk N ws) = some (bk N ws) := fun M => arg_bk M N ws
  have hnn : ∀ M, gIsN false M .non .non = some (.bl true) := fun M => rfl
  have hob : ∀ M, outD M (.bl true) = some (.bl true) := fun M => rfl
  generalize (plc p []).map plD = PL at *
  generalize D.lck (ns.map D.int) = LC at *
  generalize bk N ws = BK at *
  generalize rD t = T at *
  generalize pD p = P at *
  simp [-eV_e, eV_n, hPn, hbn, hba2, hpa, hft, hnn, hob]
end LK
set_option maxHeartbeats 4000000
open PySem PySem.W PySem.Calls PyProof.Rows
theorem PySem.Challenge.cw_liftedliars_k13_line_trees_judged_holds : PySem.Challenge.rw_liftedliars_k13_line_trees_judged.Holds := by
  w_on; o_law
  refine HandSHeadRun.head_any (r := OpenLaw.row PySem.Challenge.rw_liftedliars_k13_line_trees_judged) (q := view (OpenLaw.row PySem.Challenge.rw_liftedliars_k13_line_trees_judged).prog [50]) (H := LK.hk) (ob := LK.ob) (M := 6000) (loose := LK.loose) (d := HandSHeadRun.topDef (OpenLaw.row PySem.Challenge.rw_liftedliars_k13_line_trees_judged).prog 50) (kwd := []) LK.ob_eq
    (by kernel_rfl) (fun s => by kernel_rfl) LK.run (by kernel_rfl) (by kernel_rfl) (by kernel_rfl) (by rfl) (by first | assumption | decide +kernel) (by decide +kernel) ⟨rfl, rfl, rfl, rfl, rfl, by decide +kernel⟩ ?hw ?hc
  case hw => w_witness2
  case hc =>
    refine DL.law_end (l := PySem.Challenge.rw_liftedliars_k13_line_trees_judged) (n := 63) (lv := 118) (par := "script") rfl (by decide) (by kernel_rfl) ⟨rfl, by decide, by decide⟩ ?F
    intro w mg fa h Y G hmg0
    obtain ⟨K, KX, c⟩ := Y
    have hmg : mg ("law" : PySem.Str) = some (.ref fa) := by
      have e : (HandSHeadRun.topDef (OpenLaw.row PySem.Challenge.rw_liftedliars_k13_line_trees_judged).prog 50).name = ("law" : PySem.Str) := by kernel_rfl
      rw [← e]
      exact hmg0
    obtain ⟨fd, hb, hF⟩ := LK.facts (w := w) KX G hmg c
    exact ⟨K, fd, LK.m_law, KX, hb, LK.law_true, hF⟩
