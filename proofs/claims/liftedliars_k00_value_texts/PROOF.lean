import PyProof.Rows.All
import Wide.All
import OpenK.AllK
import Wide.FinOn
import HandS.ForMost
import HandS.ForExc
import HandS.CallSlots
import HandS.Evl
import HandS.Wide
import HandS.TupAny
import HandS.TupMul
import HandS.Deep
import HandS.IsInst
import HandS.Zip
import HandS.Rev
import KE.KStateDown
import HandS.More
import HandS.Defaults
import HandS.Head0
import HandS.Head1
import HandS.Head2
import HandS.HeadEnd
import HandS.HeadHook1
import HandS.HeadHook2
import HandS.Words
import HandS.WordsExc
import KE.KExcSuper
import HandS.ExcInit
import HandS.Nested
import HandS.TryMany
import HandS.TryOnly
import HandS.ExcField
import HandS.ExcIs
import KE.KExcPX
import HandS.Flow
import HandS.Text
import HandS.RaiseMore
import HandS.Codes
import PySem.Challenge.RW_liftedliars_k00_value_texts
set_option Elab.async false
set_option linter.all false
set_option maxRecDepth 100000
/-! DL, part a: values without a heap, what stands for what, and how it is carried along. -/
namespace DL
open PySem PySem.Spec PyProof.Rows L2

/-- a value of Python as plain data -/
inductive D where
  | non | bl (b : Bool) | int (i : Int) | str (s : Str)
  | tup (ds : List D)
  /-- a list that came in as an argument: read only -/
  | lst (ds : List D)
  /-- .. that is locked (the script) -/
  | lck (ds : List D)
  /-- a list made since the entry of the def, held by other data, no longer changed -/
  | fr (ds : List D)
  /-- a list just made, nobody else's -/
  | new (ds : List D)
  /-- a changing object of this frame, by its number -/
  | ref (n : Nat)
  /-- a class or a def of the text, by its name -/
  | glob (x : Str)
  /-- a built-in class -/
  | ty (n : String)
  /-- an instance of a class of the text that stays as it is -/
  | obj (C : Str) (fs : List (Str × D))
  /-- .. that came in as an argument and may change behind the call -/
  | bor (C : Str) (fs : List (Str × D))
  /-- an exception that is handled -/
  | exh (a d : Addr) (C : Str) (fs : List (Str × D))

/-- a changing object -/
inductive MO where
  | lst (ds : List D)
  | ins (C : Str) (fs : List (Str × D))

abbrev Sl := List (Option D)
abbrev Mem := List MO

/-- an exception in flight: its class, its own attributes -/
structure Exn where
  cls : Str
  fs : List (Str × D)

/-! ### what may leave a def -/
mutual
def plain : D → Bool
  | .non | .bl _ | .int _ | .str _ | .glob _ | .ty _ => true
  | .tup ds => plainL ds
  | .fr ds => plainL ds
  | .obj _ fs => plainF fs
  | _ => false
def plainL : List D → Bool
  | [] => true
  | d :: ds => plain d && plainL ds
def plainF : List (Str × D) → Bool
  | [] => true
  | (_, d) :: ds => plain d && plainF ds
end
def outOk : D → Bool
  | .new ds => plainL ds
  | d => plain d

/-! ### what stands for what -/
/-- a tuple of the written part -/
def Kt (K : PySem.W.Frag) (a : Addr) (xs : List V) : Prop :=
  ∃ (o : Obj) (its : Array Value) (n : Nat), K.lookup a = some o ∧ o.cls = .type "tuple" ∧ o.data = .seq its n ∧ its.size ≤ sizeLine ∧ Vals xs its.toList
def TupAt (K : PySem.W.Frag) (av θ : List Addr) (H : Hp) (a : Addr) (xs : List V) : Prop := (a ∉ θ ∧ a ∉ av ∧ Rd H a (.tup xs)) ∨ Kt K a xs
theorem TupAt.sq {K : PySem.W.Frag} {av θ : List Addr} {H : Hp} {a : Addr} {xs : List V} (h : TupAt K av θ H a xs) : SqT K H a xs := by
  rcases h with ⟨_, _, h⟩ | h
  · exact .inl h
  · exact .inr h
abbrev Mg := Str → Option Value
section
variable (K : PySem.W.Frag) (mg : Mg) (H0 : Hp) (av θ : List Addr) (H : Hp)
mutual
def rep : D → V → Prop
  | .non, v => v = .non
  | .bl b, v => v = .bl b
  | .int i, v => v = .int i
  | .str s, v => v = .str s
  | .tup ds, v => ∃ a xs, v = .ref a ∧ TupAt K av θ H a xs ∧ repL ds xs
  | .lst ds, v => ∃ a xs, v = .ref a ∧ H0 a = some (.lst xs) ∧ repL ds xs
  | .lck ds, v => ∃ a xs, v = .ref a ∧ SqL K H0 a xs ∧ repL ds xs
  | .fr ds, v => ∃ a xs, v = .ref a ∧ a ∉ θ ∧ a ∉ av ∧ H0 a = none ∧ H a = some (.lst xs) ∧ repL ds xs
  | .new ds, v => ∃ a xs, v = .ref a ∧ a ∉ θ ∧ a ∉ av ∧ H0 a = none ∧ H a = some (.lst xs) ∧ repL ds xs
  | .ref n, v => ∃ a, v = .ref a ∧ θ[n]? = some a
  | .glob x, v => ∃ a, v = .ref a ∧ mg x = some (.ref a)
  | .ty n, v => v = .ty n
  | .obj C fs, v => ∃ a c dx vs, v = .ref a ∧ a ∉ θ ∧ a ∉ av ∧ mg C = some (.ref c) ∧ H a = some (.ins c dx vs) ∧ repF fs vs
  | .bor C fs, v => ∃ a c dx vs, v = .ref a ∧ mg C = some (.ref c) ∧ H0 a = some (.ins c dx vs) ∧ repF fs vs
  | .exh a d C fs, v => ∃ c vs, v = .ref a ∧ d ∉ θ ∧ d ∉ av ∧ mg C = some (.ref c) ∧ H d = some (.xd vs) ∧ repF fs vs
def repL : List D → List V → Prop
  | [], xs => xs = []
  | d :: ds, xs => ∃ x r, xs = x :: r ∧ rep d x ∧ repL ds r
def repF : List (Str × D) → List (Str × V) → Prop
  | [], xs => xs = []
  | (k, d) :: ds, xs => ∃ x r, xs = (k, x) :: r ∧ rep d x ∧ repF ds r
end
def repO : MO → Addr → Prop
  | .lst ds, a => ∃ xs, H a = some (.lst xs) ∧ repL K mg H0 av θ H ds xs
  | .ins C fs, a => ∃ c dx vs, mg C = some (.ref c) ∧ H a = some (.ins c dx vs) ∧ repF K mg H0 av θ H fs vs
/-- a value handed back -/
def repR (d : D) (v : V) : Prop := outOk d = true ∧ rep K mg H0 av [] H d v ∧ ∀ ds, d = .new ds → ∃ p xs, v = .ref p ∧ H p = some (.lst xs) ∧ repL K mg H0 (p :: av) [] H ds xs
def repX (e : Exn) (cls : Value) (dd : Option Addr) : Prop :=
  (∃ c d vs, mg e.cls = some (.ref c) ∧ cls = .ref c ∧ dd = some d ∧ d ∉ θ ∧ d ∉ av ∧ H d = some (.xd vs) ∧ plainF e.fs = true ∧ repF K mg H0 av θ H e.fs vs) ∨
  (e.fs = [] ∧ ∃ T : String, mg e.cls = none ∧ e.cls = T ∧ cls = .type T)
end

/-! ### carrying -/
def Exh (H H' : Hp) : Prop := ∀ a o, H a = some o → H' a = some o
theorem Exh.refl (H : Hp) : Exh H H := fun _ _ h => h
theorem Exh.trans {H H1 H2 : Hp} (a : Exh H H1) (b : Exh H1 H2) : Exh H H2 := fun x o h => b x o (a x o h)
theorem Exh.new {H : Hp} {p : Addr} {o : HO} (h : H p = none) : Exh H (upd H p o) := fun a u e => by
  rw [upd_ne (ne_of_none e h)]; exact e
theorem Exh.mut {H H' : Hp} {p : Addr} {o : HO} (e : Exh H H') (h : H p = none) : Exh H (upd H' p o) := fun a u ha => by
  rw [upd_ne (ne_of_none ha h)]; exact e a u ha
theorem Exh.back {H H' : Hp} (e : Exh H H') {a : Addr} (h : H' a = none) : H a = none := by
  cases q : H a with
  | none => rfl
  | some o => rw [e a o q] at h; cases h
theorem Exh.rd {H H' : Hp} (e : Exh H H') {a : Addr} {u : HO} (h : Rd H a u) : Rd H' a u := by
  rcases h with h | ⟨o, h⟩
  · exact .inl (e _ _ h)
  · exact .inr ⟨o, e _ _ h⟩

/-- from one state of a frame to a later one: new objects may be owned, owned ones may change -/
structure Gr (θ θ' : List Addr) (H H' : Hp) : Prop where
  pre : θ <+: θ'
  nw : ∀ a ∈ θ', a ∉ θ → H a = none
  keep : ∀ a o, a ∉ θ → H a = some o → H' a = some o
section
variable {K : PySem.W.Frag} {mg : Mg} {H0 H H1 H2 H' : Hp} {av θ θ1 θ2 θ' : List Addr}
theorem Gr.of_ex (e : Exh H H') : Gr θ θ H H' := ⟨List.prefix_refl _, fun a h n => absurd h n, fun a o _ h => e a o h⟩
theorem Gr.refl : Gr θ θ H H := Gr.of_ex (Exh.refl H)
theorem Gr.mem (g : Gr θ θ' H H') {a : Addr} (h : a ∈ θ) : a ∈ θ' := g.pre.subset h
theorem Gr.notin (g : Gr θ θ' H H') {a : Addr} {o : HO} (h : a ∉ θ) (e : H a = some o) : a ∉ θ' := fun q => by
  rw [g.nw a q h] at e; cases e
theorem Gr.trans (g : Gr θ θ1 H H1) (f : Gr θ1 θ2 H1 H2) : Gr θ θ2 H H2 where
  pre := g.pre.trans f.pre
  nw := fun a h n => by
    by_cases q : a ∈ θ1
    · exact g.nw a q n
    · have z := f.nw a h q
      cases e : H a with
      | none => rfl
      | some o => rw [g.keep a o n e] at z; cases z
  keep := fun a o n e => f.keep a o (g.notin n e) (g.keep a o n e)
theorem Gr.get (g : Gr θ θ' H H') {n : Nat} {a : Addr} (h : θ[n]? = some a) : θ'[n]? = some a := by
  obtain ⟨r, rfl⟩ := g.pre
  rw [List.getElem?_append_left]
  · exact h
  · exact (List.getElem?_eq_some_iff.mp h).1

variable {bv : List Addr}
/-- what an object that is not this frame's does from one state to another -/
abbrev Goes (av bv θ θ' : List Addr) (H H' : Hp) : Prop := ∀ a o, a ∉ θ → a ∉ av → H a = some o → a ∉ θ' ∧ a ∉ bv ∧ H' a = some o
theorem TupAt.tr (k : Goes av bv θ θ' H H') {a : Addr} {xs : List V} (h : TupAt K av θ H a xs) : TupAt K bv θ' H' a xs := by
  rcases h with ⟨n, m, h | ⟨o, h⟩⟩ | h
  · obtain ⟨k1, k2, k3⟩ := k a _ n m h
    exact .inl ⟨k1, k2, .inl k3⟩
  · obtain ⟨k1, k2, k3⟩ := k a _ n m h
    exact .inl ⟨k1, k2, .inr ⟨o, k3⟩⟩
  · exact .inr h
mutual
theorem rep.tr (ht : ∀ (n : Nat) (a : Addr), θ[n]? = some a → θ'[n]? = some a) (k : Goes av bv θ θ' H H') : ∀ (d : D) (v : V), rep K mg H0 av θ H d v → rep K mg H0 bv θ' H' d v
  | .non, _, h => h
  | .bl _, _, h => h
  | .int _, _, h => h
  | .str _, _, h => h
  | .tup ds, _, ⟨a, xs, e, t, r⟩ => ⟨a, xs, e, t.tr k, repL.tr ht k ds xs r⟩
  | .lst ds, _, ⟨a, xs, e, t, r⟩ => ⟨a, xs, e, t, repL.tr ht k ds xs r⟩
  | .lck ds, _, ⟨a, xs, e, t, r⟩ => ⟨a, xs, e, t, repL.tr ht k ds xs r⟩
  | .fr ds, _, ⟨a, xs, e, n, m, f, t, r⟩ => ⟨a, xs, e, (k a _ n m t).1, (k a _ n m t).2.1, f, (k a _ n m t).2.2, repL.tr ht k ds xs r⟩
  | .new ds, _, ⟨a, xs, e, n, m, f, t, r⟩ => ⟨a, xs, e, (k a _ n m t).1, (k a _ n m t).2.1, f, (k a _ n m t).2.2, repL.tr ht k ds xs r⟩
  | .ref _, _, ⟨a, e, h⟩ => ⟨a, e, ht _ _ h⟩
  | .glob _, _, h => h
  | .ty _, _, h => h
  | .obj _ fs, _, ⟨a, c, dx, vs, e, n, m, hc, t, r⟩ => ⟨a, c, dx, vs, e, (k a _ n m t).1, (k a _ n m t).2.1, hc, (k a _ n m t).2.2, repF.tr ht k fs vs r⟩
  | .bor _ fs, _, ⟨a, c, dx, vs, e, hc, t, r⟩ => ⟨a, c, dx, vs, e, hc, t, repF.tr ht k fs vs r⟩
  | .exh _ _ _ fs, _, ⟨c, vs, e, n, m, hc, t, r⟩ => ⟨c, vs, e, (k _ _ n m t).1, (k _ _ n m t).2.1, hc, (k _ _ n m t).2.2, repF.tr ht k fs vs r⟩
theorem repL.tr (ht : ∀ (n : Nat) (a : Addr), θ[n]? = some a → θ'[n]? = some a) (k : Goes av bv θ θ' H H') : ∀ (ds : List D) (xs : List V), repL K mg H0 av θ H ds xs → repL K mg H0 bv θ' H' ds xs
  | [], _, h => h
  | d :: ds, _, ⟨x, r, e, h, t⟩ => ⟨x, r, e, rep.tr ht k d x h, repL.tr ht k ds r t⟩
theorem repF.tr (ht : ∀ (n : Nat) (a : Addr), θ[n]? = some a → θ'[n]? = some a) (k : Goes av bv θ θ' H H') : ∀ (ds : List (Str × D)) (xs : List (Str × V)), repF K mg H0 av θ H ds xs → repF K mg H0 bv θ' H' ds xs
  | [], _, h => h
  | (_, d) :: ds, _, ⟨x, r, e, h, t⟩ => ⟨x, r, e, rep.tr ht k d x h, repF.tr ht k ds r t⟩
end
theorem repO.tr (ht : ∀ (n : Nat) (a : Addr), θ[n]? = some a → θ'[n]? = some a) (k : Goes av bv θ θ' H H') {mo : MO} {a : Addr} (q : ∀ o, H a = some o → H' a = some o) (h : repO K mg H0 av θ H mo a) : repO K mg H0 bv θ' H' mo a := by
  cases mo with
  | lst ds => obtain ⟨xs, h, r⟩ := h; exact ⟨xs, q _ h, repL.tr ht k _ _ r⟩
  | ins C fs => obtain ⟨c, dx, vs, hc, h, r⟩ := h; exact ⟨c, dx, vs, hc, q _ h, repF.tr ht k _ _ r⟩
theorem Gr.goes (g : Gr θ θ' H H') : Goes av av θ θ' H H' := fun a o n m h => ⟨g.notin n h, m, g.keep a o n h⟩
theorem TupAt.gr (g : Gr θ θ' H H') {a : Addr} {xs : List V} (h : TupAt K av θ H a xs) : TupAt K av θ' H' a xs := h.tr g.goes
theorem rep.gr (g : Gr θ θ' H H') (d : D) (v : V) (h : rep K mg H0 av θ H d v) : rep K mg H0 av θ' H' d v := rep.tr (fun _ _ => g.get) g.goes d v h
theorem repL.gr (g : Gr θ θ' H H') (ds : List D) (xs : List V) (h : repL K mg H0 av θ H ds xs) : repL K mg H0 av θ' H' ds xs := repL.tr (fun _ _ => g.get) g.goes ds xs h
theorem repF.gr (g : Gr θ θ' H H') (ds : List (Str × D)) (xs : List (Str × V)) (h : repF K mg H0 av θ H ds xs) : repF K mg H0 av θ' H' ds xs := repF.tr (fun _ _ => g.get) g.goes ds xs h

/-- what a frame's plain state stands for -/
structure RS (K : PySem.W.Frag) (mg : Mg) (H0 : Hp) (av θ : List Addr) (sd : Sl) (μ : Mem) (σ : L2.St) (H : Hp) : Prop where
  ex : Exh H0 H
  fr : ∀ a ∈ θ, H0 a = none
  nd : θ.Nodup
  len : θ.length = μ.length
  mem : ∀ (n : Nat) (mo : MO) (a : Addr), μ[n]? = some mo → θ[n]? = some a → repO K mg H0 av θ H mo a
  avs : ∀ a ∈ av, a ∉ θ ∧ ∃ o, H a = some o ∧ Mut (some o)
  sl : σ.length = sd.length ∧ ∀ (i : Nat) (d : D), sd[i]? = some (some d) → ∃ v, σ[i]? = some (some v) ∧ rep K mg H0 av θ H d v

theorem repO.is {mo : MO} {a : Addr} (h : repO K mg H0 av θ H mo a) : ∃ o, H a = some o ∧ Mut (some o) := by
  cases mo with
  | lst ds => obtain ⟨xs, h, _⟩ := h; exact ⟨_, h, trivial⟩
  | ins C fs => obtain ⟨c, dx, vs, _, h, _⟩ := h; exact ⟨_, h, trivial⟩
variable {sd : Sl} {μ : Mem} {σ : L2.St}
theorem RS.has (R : RS K mg H0 av θ sd μ σ H) {a : Addr} (h : a ∈ θ) : ∃ o, H a = some o ∧ Mut (some o) := by
  obtain ⟨n, hn, e⟩ := List.getElem_of_mem h
  have hm : n < μ.length := by rw [← R.len]; exact hn
  exact (R.mem n μ[n] a (List.getElem?_eq_getElem hm) (by rw [List.getElem?_eq_getElem hn, e])).is
/-- nothing that stood is gone -/
theorem RS.back {sd' : Sl} {μ' : Mem} {σ' : L2.St} (R : RS K mg H0 av θ' sd' μ' σ' H') (g : Gr θ θ' H H') {a : Addr} (h : H' a = none) : H a = none := by
  by_cases q : a ∈ θ
  · obtain ⟨o, e, _⟩ := R.has (g.mem q)
    rw [h] at e; cases e
  · cases e : H a with
    | none => rfl
    | some o => rw [g.keep a o q e] at h; cases h
theorem repO.gr (g : Gr θ θ' H H') {mo : MO} {a : Addr} (k : ∀ o, H a = some o → H' a = some o) (h : repO K mg H0 av θ H mo a) : repO K mg H0 av θ' H' mo a := repO.tr (fun _ _ => g.get) g.goes k h
/-- a heap that has grown -/
theorem RS.grow (R : RS K mg H0 av θ sd μ σ H) (e : Exh H H') : RS K mg H0 av θ sd μ σ H' where
  ex := R.ex.trans e
  fr := R.fr
  nd := R.nd
  len := R.len
  mem := fun n mo a h1 h2 => (R.mem n mo a h1 h2).gr (Gr.of_ex e) fun o q => e _ _ q
  avs := fun a h => let ⟨n, o, q, m⟩ := R.avs a h; ⟨n, o, e _ _ q, m⟩
  sl := ⟨R.sl.1, fun i d h => let ⟨v, q, r⟩ := R.sl.2 i d h; ⟨v, q, rep.gr (Gr.of_ex e) _ _ r⟩⟩
/-- other slots -/
theorem RS.slots (R : RS K mg H0 av θ sd μ σ H) {sd' : Sl} {σ' : L2.St} (h : σ'.length = sd'.length ∧ ∀ (i : Nat) (d : D), sd'[i]? = some (some d) → ∃ v, σ'[i]? = some (some v) ∧ rep K mg H0 av θ H d v) :
    RS K mg H0 av θ sd' μ σ' H := ⟨R.ex, R.fr, R.nd, R.len, R.mem, R.avs, h⟩
/-- the slots of a state, carried to a later one -/
theorem RS.sls (R : RS K mg H0 av θ sd μ σ H) (g : Gr θ θ' H H') : σ.length = sd.length ∧ ∀ (i : Nat) (d : D), sd[i]? = some (some d) → ∃ v, σ[i]? = some (some v) ∧ rep K mg H0 av θ' H' d v :=
  ⟨R.sl.1, fun i d h => let ⟨v, q, r⟩ := R.sl.2 i d h; ⟨v, q, rep.gr g _ _ r⟩⟩
theorem RS.set (R : RS K mg H0 av θ sd μ σ H) (i : Nat) {d : D} {v : V} (r : rep K mg H0 av θ H d v) : RS K mg H0 av θ (sd.set i (some d)) μ (σ.set i (some v)) H := by
  refine R.slots ⟨by rw [List.length_set, List.length_set]; exact R.sl.1, fun j e h => ?_⟩
  by_cases q : j = i
  · subst q
    have hj : j < sd.length := by
      have := (List.getElem?_eq_some_iff.mp h).1
      rw [List.length_set] at this
      exact this
    rw [List.getElem?_set_self hj] at h
    obtain rfl : d = e := Option.some.inj (Option.some.inj h)
    exact ⟨v, by rw [List.getElem?_set_self (by rw [R.sl.1]; exact hj)], r⟩
  · rw [List.getElem?_set_ne (Ne.symm q)] at h
    rw [List.getElem?_set_ne (Ne.symm q)]
    exact R.sl.2 j e h
theorem RS.unset (R : RS K mg H0 av θ sd μ σ H) (i : Nat) : RS K mg H0 av θ (sd.set i none) μ (σ.set i none) H := by
  refine R.slots ⟨by rw [List.length_set, List.length_set]; exact R.sl.1, fun j e h => ?_⟩
  by_cases q : j = i
  · subst q
    have hj : j < sd.length := by
      have := (List.getElem?_eq_some_iff.mp h).1
      rw [List.length_set] at this
      exact this
    rw [List.getElem?_set_self hj] at h
    cases h
  · rw [List.getElem?_set_ne (Ne.symm q)] at h
    rw [List.getElem?_set_ne (Ne.symm q)]
    exact R.sl.2 j e h
/-! ### more, or less, to be kept away from -/
theorem goes_few (hb : ∀ b ∈ bv, b ∈ av) : Goes av bv θ θ H H := fun a o n m h => ⟨n, fun q => m (hb _ q), h⟩
theorem rep.few (hb : ∀ b ∈ bv, b ∈ av) (d : D) (v : V) (h : rep K mg H0 av θ H d v) : rep K mg H0 bv θ H d v := rep.tr (fun _ _ h => h) (goes_few hb) d v h
theorem repL.few (hb : ∀ b ∈ bv, b ∈ av) (ds : List D) (xs : List V) (h : repL K mg H0 av θ H ds xs) : repL K mg H0 bv θ H ds xs := repL.tr (fun _ _ h => h) (goes_few hb) ds xs h
theorem repO.few (hb : ∀ b ∈ bv, b ∈ av) {mo : MO} {a : Addr} (h : repO K mg H0 av θ H mo a) : repO K mg H0 bv θ H mo a := repO.tr (fun _ _ h => h) (goes_few hb) (fun _ h => h) h
theorem RS.avw (hb : ∀ b ∈ bv, b ∈ av) (R : RS K mg H0 av θ sd μ σ H) : RS K mg H0 bv θ sd μ σ H :=
  ⟨R.ex, R.fr, R.nd, R.len, fun n mo a h1 h2 => (R.mem n mo a h1 h2).few hb, fun a q => R.avs a (hb a q), R.sl.1, fun i d h => let ⟨v, q, r⟩ := R.sl.2 i d h; ⟨v, q, rep.few hb _ _ r⟩⟩

/-- what stands in a heap without p avoids p in any later one -/
theorem goes_push {p : Addr} (g : Gr θ θ' H H') (n : H p = none) : Goes av (p :: av) θ θ' H H' := fun a o m k h => ⟨g.notin m h, fun q => by
  rcases List.mem_cons.mp q with q | q
  · subst q; rw [n] at h; cases h
  · exact k q, g.keep a o m h⟩
theorem rep.push {p : Addr} (g : Gr θ θ' H H') (n : H p = none) (d : D) (v : V) (h : rep K mg H0 av θ H d v) : rep K mg H0 (p :: av) θ' H' d v := rep.tr (fun _ _ => g.get) (goes_push g n) d v h
theorem repL.push {p : Addr} (g : Gr θ θ' H H') (n : H p = none) (ds : List D) (xs : List V) (h : repL K mg H0 av θ H ds xs) : repL K mg H0 (p :: av) θ' H' ds xs := repL.tr (fun _ _ => g.get) (goes_push g n) ds xs h
theorem RS.notin (R : RS K mg H0 av θ sd μ σ H) {p : Addr} (n : H p = none) : p ∉ θ := fun q => by
  obtain ⟨o, e, _⟩ := R.has q
  rw [n] at e; cases e
theorem RS.notav (R : RS K mg H0 av θ sd μ σ H) {p : Addr} (n : H p = none) : p ∉ av := fun q => by
  obtain ⟨_, o, e, _⟩ := R.avs p q
  rw [n] at e; cases e
theorem RS.h0 (R : RS K mg H0 av θ sd μ σ H) {p : Addr} (n : H p = none) : H0 p = none := R.ex.back n
/-- the heap has grown, by a changing object at p among others: all avoid p -/
theorem RS.push (R : RS K mg H0 av θ sd μ σ H) {p : Addr} {o : HO} (e : Exh H H') (n : H p = none) (h : H' p = some o) (m : Mut (some o)) : RS K mg H0 (p :: av) θ sd μ σ H' where
  ex := R.ex.trans e
  fr := R.fr
  nd := R.nd
  len := R.len
  mem := fun k mo a h1 h2 => (R.mem k mo a h1 h2).tr (fun _ _ h => h) (goes_push (Gr.of_ex e) n) fun _ q => e _ _ q
  avs := fun a q => by
    rcases List.mem_cons.mp q with q | q
    · subst q; exact ⟨R.notin n, o, h, m⟩
    · obtain ⟨k, u, hu, mu⟩ := R.avs a q
      exact ⟨k, u, e _ _ hu, mu⟩
  sl := ⟨R.sl.1, fun i d h => let ⟨v, q, r⟩ := R.sl.2 i d h; ⟨v, q, rep.push (Gr.of_ex e) n _ _ r⟩⟩
/-- an avoided object has changed -/
theorem goes_upd {p : Addr} {o : HO} (hp : p ∈ av) : Goes av av θ θ H (upd H p o) := fun a u n m h => ⟨n, m, by rw [upd_ne (fun z => m (by rw [z]; exact hp))]; exact h⟩
theorem RS.updAv (R : RS K mg H0 av θ sd μ σ H) {p : Addr} {o : HO} (hp : p ∈ av) (f : H0 p = none) (m : Mut (some o)) : RS K mg H0 av θ sd μ σ (upd H p o) where
  ex := R.ex.mut f
  fr := R.fr
  nd := R.nd
  len := R.len
  mem := fun k mo a h1 h2 => (R.mem k mo a h1 h2).tr (fun _ _ h => h) (goes_upd hp) fun u q => by
    rw [upd_ne (fun z => (R.avs p hp).1 (by rw [← z]; exact List.mem_of_getElem? h2))]; exact q
  avs := fun a q => by
    obtain ⟨k, u, hu, mu⟩ := R.avs a q
    by_cases z : a = p
    · subst z; exact ⟨k, o, upd_same, m⟩
    · exact ⟨k, u, by rw [upd_ne z]; exact hu, mu⟩
  sl := ⟨R.sl.1, fun i d h => let ⟨v, q, r⟩ := R.sl.2 i d h; ⟨v, q, rep.tr (fun _ _ h => h) (goes_upd hp) _ _ r⟩⟩

/-! ### an avoided object comes into the frame's hands -/
theorem get_app {p : Addr} (n : Nat) (a : Addr) (h : θ[n]? = some a) : (θ ++ [p])[n]? = some a := by
  rw [List.getElem?_append_left (List.getElem?_eq_some_iff.mp h).1]; exact h
theorem goes_take {p : Addr} : Goes (p :: av) av θ (θ ++ [p]) H H := fun a o n m h => ⟨fun q => by
  rcases List.mem_append.mp q with q | q
  · exact n q
  · exact m (by rw [List.mem_singleton.mp q]; exact List.mem_cons_self), fun q => m (List.mem_cons_of_mem _ q), h⟩
theorem rep.take {p : Addr} (d : D) (v : V) (h : rep K mg H0 (p :: av) θ H d v) : rep K mg H0 av (θ ++ [p]) H d v := rep.tr get_app goes_take d v h
theorem repL.take {p : Addr} (ds : List D) (xs : List V) (h : repL K mg H0 (p :: av) θ H ds xs) : repL K mg H0 av (θ ++ [p]) H ds xs := repL.tr get_app goes_take ds xs h
theorem RS.take (R : RS K mg H0 av θ sd μ σ H) {p : Addr} (eb : av = p :: bv) (hp : p ∉ bv) (f : H0 p = none) {mo : MO} (r : repO K mg H0 bv (θ ++ [p]) H mo p) : RS K mg H0 bv (θ ++ [p]) sd (μ ++ [mo]) σ H where
  ex := R.ex
  fr := fun a q => by
    rcases List.mem_append.mp q with q | q
    · exact R.fr a q
    · rw [List.mem_singleton.mp q]; exact f
  nd := List.nodup_append.mpr ⟨R.nd, by simp, fun a h1 b h2 e => (R.avs p (by rw [eb]; exact List.mem_cons_self)).1 (by rw [List.mem_singleton.mp h2] at e; rw [← e]; exact h1)⟩
  len := by rw [List.length_append, List.length_append, R.len]; rfl
  mem := fun k m a h1 h2 => by
    by_cases q : k < μ.length
    · rw [List.getElem?_append_left q] at h1
      rw [List.getElem?_append_left (by rw [R.len]; exact q)] at h2
      have z := R.mem k m a h1 h2
      rw [eb] at z
      exact z.tr get_app goes_take fun _ h => h
    · rw [List.getElem?_append_right (Nat.le_of_not_lt q)] at h1
      rw [List.getElem?_append_right (by rw [R.len]; exact Nat.le_of_not_lt q), R.len] at h2
      have e : k - μ.length = 0 := by
        have := (List.getElem?_eq_some_iff.mp h1).1
        simp at this
        exact this
      rw [e] at h1 h2
      obtain rfl : mo = m := Option.some.inj h1
      obtain rfl : p = a := Option.some.inj h2
      exact r
  avs := fun a q => by
    obtain ⟨n, o, h⟩ := R.avs a (by rw [eb]; exact List.mem_cons_of_mem _ q)
    refine ⟨fun z => ?_, o, h⟩
    rcases List.mem_append.mp z with z | z
    · exact n z
    · rw [List.mem_singleton.mp z] at q
      exact hp q
  sl := ⟨R.sl.1, fun i d h => by
    obtain ⟨v, q, r⟩ := R.sl.2 i d h
    rw [eb] at r
    exact ⟨v, q, rep.take _ _ r⟩⟩
end
end DL
set_option Elab.async false
set_option linter.all false
set_option maxRecDepth 100000
/-! DL, part b: what an expression, a test, a statement does to the plain state, as readings. -/
namespace DL
open PySem PySem.Spec PyProof.Rows L2

abbrev R3 (α : Type) := Option (Except Exn α × Mem)
abbrev EE := Sl → Mem → R3 D
abbrev ET := Sl → Mem → R3 Bool
abbrev EA := Sl → Mem → R3 (List D)
def bE {α β : Type} (m : R3 α) (k : α → Mem → R3 β) : R3 β := match m with
  | none => none
  | some (.error e, μ) => some (.error e, μ)
  | some (.ok x, μ) => k x μ
def ok3 {α : Type} (x : α) (μ : Mem) : R3 α := some (.ok x, μ)
@[simp] theorem bE_ok {α β : Type} (x : α) (μ : Mem) (k : α → Mem → R3 β) : bE (some (.ok x, μ)) k = k x μ := rfl
@[simp] theorem bE_ok3 {α β : Type} (x : α) (μ : Mem) (k : α → Mem → R3 β) : bE (ok3 x μ) k = k x μ := rfl
@[simp] theorem bE_err {α β : Type} (x : Exn) (μ : Mem) (k : α → Mem → R3 β) : bE (some (.error x, μ)) k = some (.error x, μ) := rfl
@[simp] theorem bE_none {α β : Type} (k : α → Mem → R3 β) : bE none k = none := rfl

inductive Flow where
  | nx | ret (d : D) | brk | ct | exc (e : Exn)
abbrev SR := Option (Flow × Sl × Mem)
abbrev SS := Sl → Mem → SR

section
variable (K : PySem.W.Frag) (mg : Mg) (H0 : Hp) (W : WX)
/-- how a plain result stands for a result: avoided, owned, the heaps ahead and behind, what is new and avoided -/
abbrev Rel (α β : Type) := List Addr → List Addr → Hp → Hp → List Addr → α → β → Prop
def relD : Rel D V := fun av θ H H' nv d v => rep K mg H0 av θ H' d v ∧ ∀ ds, d = .new ds → ∃ p xs, v = .ref p ∧ nv = [p] ∧ H p = none ∧ H' p = some (.lst xs) ∧ repL K mg H0 (p :: av) θ H' ds xs
def relB : Rel Bool Bool := fun _ _ _ _ _ b c => c = b
def relA : Rel (List D) (List V) := fun av θ _ H' _ ds vs => repL K mg H0 av θ H' ds vs
def Post {α β : Type} (rel : Rel α β) (av θ : List Addr) (sd : Sl) (σ : L2.St) (H : Hp) (Q : β → Hp → Prop) (o : R3 α) : Prop := match o with
  | none => False
  | some (.ok x, μ') => ∀ (y : β) (θ' : List Addr) (H' : Hp) (nv : List Addr), Gr θ θ' H H' → RS K mg H0 (nv ++ av) θ' sd μ' σ H' → rel av θ' H H' nv x y → Q y H'
  | some (.error e, μ') => ∀ (cls : Value) (dd : Option Addr) (θ' : List Addr) (H' : Hp), Gr θ θ' H H' → RS K mg H0 av θ' sd μ' σ H' → repX K mg H0 av θ' H' e cls dd → W cls dd σ H'
def tE (f : EE) : TE := fun σ H Q => ∃ av θ sd μ, RS K mg H0 av θ sd μ σ H ∧ Post K mg H0 W (relD K mg H0) av θ sd σ H Q (f sd μ)
def tT (f : ET) : TT := fun σ H Q => ∃ av θ sd μ, RS K mg H0 av θ sd μ σ H ∧ Post K mg H0 W relB av θ sd σ H Q (f sd μ)
def tA (f : EA) : TA := fun σ H Q => ∃ av θ sd μ, RS K mg H0 av θ sd μ σ H ∧ Post K mg H0 W (relA K mg H0) av θ sd σ H Q (f sd μ)
def PostS (av θ : List Addr) (H : Hp) (E : Ends) (o : SR) : Prop := match o with
  | none => False
  | some (.nx, sd', μ') => ∀ σ' θ' H', Gr θ θ' H H' → RS K mg H0 av θ' sd' μ' σ' H' → E.nx σ' H'
  | some (.brk, sd', μ') => ∀ σ' θ' H', Gr θ θ' H H' → RS K mg H0 av θ' sd' μ' σ' H' → E.bk σ' H'
  | some (.ct, sd', μ') => ∀ σ' θ' H', Gr θ θ' H H' → RS K mg H0 av θ' sd' μ' σ' H' → E.ct σ' H'
  | some (.ret d, _, _) => ∀ v H', Exh H0 H' → repR K mg H0 av H' d v → E.rt v H'
  | some (.exc e, sd', μ') => ∀ cls dd σ' θ' H', Gr θ θ' H H' → RS K mg H0 av θ' sd' μ' σ' H' → repX K mg H0 av θ' H' e cls dd → W cls dd σ' H'
def tS (f : SS) : TS := fun E σ H => ∃ av θ sd μ, RS K mg H0 av θ sd μ σ H ∧ PostS K mg H0 W av θ H E (f sd μ)
end

/-- nothing is let out -/
abbrev WF : WX := fun _ _ _ _ => False

section
variable {K : PySem.W.Frag} {mg : Mg} {H0 : Hp} {W : WX} {av θ θ1 : List Addr} {sd : Sl} {μ μ1 : Mem} {σ : L2.St} {H H1 : Hp}
/-- a relation that asks no more of an earlier start -/
def Anti {α β : Type} (rel : Rel α β) : Prop := ∀ av θ (H H1 H' : Hp) nv x y, (∀ a, H1 a = none → H a = none) → rel av θ H1 H' nv x y → rel av θ H H' nv x y
theorem antiD : Anti (relD K mg H0) := fun _ _ _ _ _ _ _ _ h ⟨r, n⟩ => ⟨r, fun ds e => let ⟨p, xs, a, b, c, f⟩ := n ds e; ⟨p, xs, a, b, h _ c, f⟩⟩
theorem antiB : Anti relB := fun _ _ _ _ _ _ _ _ _ r => r
theorem antiA : Anti (relA K mg H0) := fun _ _ _ _ _ _ _ _ _ r => r
theorem RS.plain {nv : List Addr} (R : RS K mg H0 (nv ++ av) θ sd μ σ H) : RS K mg H0 av θ sd μ σ H := R.avw fun b h => List.mem_append_right _ h
theorem Post.rebase {α β : Type} {rel : Rel α β} {Q : β → Hp → Prop} {o : R3 α} (an : Anti rel) (P : Post K mg H0 W rel av θ sd σ H Q o) (g : Gr θ θ1 H H1) (R : RS K mg H0 av θ1 sd μ1 σ H1) :
    Post K mg H0 W rel av θ1 sd σ H1 Q o := by
  match o, P with
  | some (.ok x, μ'), P => exact fun y θ' H' nv g' R' r => P y θ' H' nv (g.trans g') R' (an _ _ _ _ _ _ _ _ (fun a h => R.back g h) r)
  | some (.error e, μ'), P => exact fun cls dd θ' H' g' R' r => P cls dd θ' H' (g.trans g') R' r
theorem Post.bind {α β γ δ : Type} {rel : Rel α β} {rel1 : Rel γ δ} {Q : β → Hp → Prop} {Q1 : δ → Hp → Prop} {m : R3 γ} {k : γ → Mem → R3 α} (an : Anti rel) (P : Post K mg H0 W rel av θ sd σ H Q (bE m k))
    (h : ∀ (x : γ) (μ1 : Mem) (y : δ) (θ1 : List Addr) (H1 : Hp) (nv : List Addr), Gr θ θ1 H H1 → RS K mg H0 (nv ++ av) θ1 sd μ1 σ H1 → rel1 av θ1 H H1 nv x y → Post K mg H0 W rel av θ1 sd σ H1 Q (k x μ1) → Q1 y H1) :
    Post K mg H0 W rel1 av θ sd σ H Q1 m := by
  match m, P with
  | some (.ok x, μ'), P =>
    exact fun y θ' H' nv g R r => h x μ' y θ' H' nv g R r (Post.rebase an (show Post K mg H0 W rel av θ sd σ H Q (k x μ') from P) g R.plain)
  | some (.error e, μ'), P => exact P
theorem PostS.rebase {E : Ends} {o : SR} (P : PostS K mg H0 W av θ H E o) (g : Gr θ θ1 H H1) : PostS K mg H0 W av θ1 H1 E o := by
  match o, P with
  | some (.nx, _, _), P => exact fun σ' θ' H' g' R => P σ' θ' H' (g.trans g') R
  | some (.brk, _, _), P => exact fun σ' θ' H' g' R => P σ' θ' H' (g.trans g') R
  | some (.ct, _, _), P => exact fun σ' θ' H' g' R => P σ' θ' H' (g.trans g') R
  | some (.ret d, _, _), P => exact P
  | some (.exc e, _, _), P => exact fun cls dd σ' θ' H' g' R r => P cls dd σ' θ' H' (g.trans g') R r

variable {X : Cx} {e : Expr} {es : List Expr} {st : Stmt} {sts : List Stmt}
theorem wkE {t t' : TE} (h : PE X e t) (w : ∀ σ H Q, t' σ H Q → t σ H Q) : PE X e t' := ⟨fun pins s σ H Q I q => h.run pins s σ H Q I (w σ H Q q)⟩
theorem wkT {t t' : TT} (h : PT X e t) (w : ∀ σ H Q, t' σ H Q → t σ H Q) : PT X e t' := ⟨fun pins s σ H Q I q => h.run pins s σ H Q I (w σ H Q q)⟩
theorem wkW {t t' : TT} (h : PW X e t) (w : ∀ σ H Q, t' σ H Q → t σ H Q) : PW X e t' := ⟨fun wh pins s σ H Q I q => h.run wh pins s σ H Q I (w σ H Q q)⟩
theorem wkA {t t' : TA} (h : PA X es t) (w : ∀ σ H Q, t' σ H Q → t σ H Q) : PA X es t' := ⟨fun pos pins s σ H Q I q => h.run pos pins s σ H Q I (w σ H Q q)⟩
theorem wkS {t t' : TS} (h : PS X st t) (w : ∀ E σ H, t' E σ H → t E σ H) : PS X st t' := ⟨fun pins s σ H E I q => h.run pins s σ H E I (w E σ H q)⟩
theorem wkSs {t t' : TS} (h : PSs X sts t) (w : ∀ E σ H, t' E σ H → t E σ H) : PSs X sts t' := ⟨fun pins s σ H E I q => h.run pins s σ H E I (w E σ H q)⟩

/-! ### the parts, as plain functions -/
def eC (d : D) : EE := fun _ μ => some (.ok d, μ)
def eV (i : Nat) : EE := fun sd μ => match sd[i]? with
  | some (some (.new _)) => none
  | some (some d) => some (.ok d, μ)
  | _ => none
/-- a list just made is taken into the frame's hands -/
def eOwn (f : EE) : EE := fun sd μ => match f sd μ with
  | some (.ok (.new ds), μ1) => some (.ok (.ref μ1.length), μ1 ++ [.lst ds])
  | r => r
def eBin (g : Mem → D → D → Option D) (fa fb : EE) : EE := fun sd μ => bE (fa sd μ) fun x μ1 => bE (fb sd μ1) fun y μ2 => (g μ2 x y).map fun d => (.ok d, μ2)
def eUn (g : Mem → D → Option D) (fa : EE) : EE := fun sd μ => bE (fa sd μ) fun x μ1 => (g μ1 x).map fun d => (.ok d, μ1)
def eNil : EA := fun _ μ => some (.ok [], μ)
def eCons (f : EE) (g : EA) : EA := fun sd μ => bE (f sd μ) fun d μ1 => bE (g sd μ1) fun ds μ2 => some (.ok (d :: ds), μ2)
/-- a built-in called -/
def eCB (g : Mem → List D → Option D) (fa : EA) : EE := fun sd μ => bE (fa sd μ) fun xs μ1 => (g μ1 xs).map fun d => (.ok d, μ1)
def eTup (f : EA) : EE := fun sd μ => bE (f sd μ) fun ds μ1 => if ds.length ≤ sizeLine then some (.ok (.tup ds), μ1) else none
def eLst (f : EA) : EE := fun sd μ => bE (f sd μ) fun ds μ1 => if ds.length ≤ sizeLine then some (.ok (.new ds), μ1) else none
def eIf (t : ET) (fa fb : EE) : EE := fun sd μ => bE (t sd μ) fun b μ1 => if b then fa sd μ1 else fb sd μ1
def eAnd (fa fb : EE) : EE := fun sd μ => bE (fa sd μ) fun x μ1 => match x with
  | .bl true => fb sd μ1
  | .bl false => some (.ok (.bl false), μ1)
  | _ => none
def eOr (fa fb : EE) : EE := fun sd μ => bE (fa sd μ) fun x μ1 => match x with
  | .bl true => some (.ok (.bl true), μ1)
  | .bl false => fb sd μ1
  | _ => none
def eNot (fa : EE) : EE := fun sd μ => bE (fa sd μ) fun x μ1 => match x with
  | .bl b => some (.ok (.bl (!b)), μ1)
  | _ => none
/-- a test that is a True or False -/
def qB (f : EE) : ET := fun sd μ => bE (f sd μ) fun x μ1 => match x with
  | .bl b => some (.ok b, μ1)
  | _ => none
def qAnd (t u : ET) : ET := fun sd μ => bE (t sd μ) fun b μ1 => if b then u sd μ1 else some (.ok false, μ1)
def qOr (t u : ET) : ET := fun sd μ => bE (t sd μ) fun b μ1 => if b then some (.ok true, μ1) else u sd μ1
def qNot (t : ET) : ET := fun sd μ => bE (t sd μ) fun b μ1 => some (.ok (!b), μ1)

/-! ### names and constants -/
theorem pd_var (i : Nat) {x : Str} {pos : Pos} (hN : X.N[i]? = some x := by rfl) (hv : Vis X.env.scope x := by first | exact Or.inl rfl | exact Or.inr (Or.inl rfl) | exact Or.inr (Or.inr rfl))
    (hd : (x == ("__debug__" : Str)) = false := by decide) (hcd : (x == ("__classdict__" : Str)) = false := by decide) : PE X (.Name x pos) (tE K mg H0 W (eV i)) := by
  refine wkE (pe_var hN hv hd hcd) fun σ H Q ⟨av, θ, sd, μ, R, P⟩ => ?_
  unfold eV at P
  cases h : sd[i]? with
  | none => rw [h] at P; exact P.elim
  | some o =>
    cases o with
    | none => rw [h] at P; exact P.elim
    | some d =>
      rw [h] at P
      obtain ⟨v, hv, r⟩ := R.sl.2 i d h
      refine ⟨v, hv, ?_⟩
      cases d with
      | new ds => exact P.elim
      | _ => exact P v θ H [] Gr.refl R ⟨r, fun _ e => by cases e⟩
theorem pd_c {d : D} {v : V} (h : PE X e (tC v)) (hr : ∀ av θ (H : Hp), rep K mg H0 av θ H d v) (hn : ∀ ds, d ≠ .new ds) : PE X e (tE K mg H0 W (eC d)) :=
  wkE h fun _ H _ ⟨av, θ, sd, μ, R, P⟩ => P v θ H [] Gr.refl R ⟨hr av θ H, fun ds e => absurd e (hn ds)⟩
theorem pd_int {i j pos} : PE X (.Constant (.int i) j pos) (tE K mg H0 W (eC (.int i))) := pd_c pe_int (fun _ _ _ => rfl) (fun _ => by intro e; cases e)
theorem pd_bl {b j pos} : PE X (.Constant (.bool b) j pos) (tE K mg H0 W (eC (.bl b))) := pd_c pe_bl (fun _ _ _ => rfl) (fun _ => by intro e; cases e)
theorem pd_non {j pos} : PE X (.Constant .none j pos) (tE K mg H0 W (eC .non)) := pd_c pe_non (fun _ _ _ => rfl) (fun _ => by intro e; cases e)
theorem pd_str {x j pos} : PE X (.Constant (.str x) j pos) (tE K mg H0 W (eC (.str x))) := pd_c pe_str (fun _ _ _ => rfl) (fun _ => by intro e; cases e)
/-- a module's constant -/
theorem pd_glob {x : Str} {u : Value} {v : V} {d : D} {pos : Pos} (hg : Gl X x) (hm : X.mg x = some u) (r : RelV v u) (hr : ∀ av θ (H : Hp), rep K mg H0 av θ H d v) (hn : ∀ ds, d ≠ .new ds) (hd : (x == ("__debug__" : Str)) = false := by decide) :
    PE X (.Name x pos) (tE K mg H0 W (eC d)) := pd_c (pe_glob hg hm r hd) hr hn
/-- taken into the frame's hands -/
theorem own_read {f : EE} {Q : VK} (hh : tE K mg H0 W (eOwn f) σ H Q) : tE K mg H0 W f σ H Q := by
  obtain ⟨av, θ, sd, μ, R, P⟩ := hh
  refine ⟨av, θ, sd, μ, R, ?_⟩
  unfold eOwn at P
  cases q : f sd μ with
  | none => rw [q] at P; exact P
  | some z =>
    obtain ⟨r, μ1⟩ := z
    cases r with
    | error e => rw [q] at P; exact P
    | ok d =>
      cases d with
      | new ds =>
        rw [q] at P
        intro v θ' H' nv g R' ⟨r, fn⟩
        obtain ⟨p, xs, rfl, rfl, hp, hl, rl⟩ := fn ds rfl
        obtain ⟨a, _, ea, n, m, f0, _, _⟩ := r
        cases ea
        have hgr : Gr θ (θ' ++ [p]) H H' := ⟨g.pre.trans (List.prefix_append _ _), fun b hb nb => by
          rcases List.mem_append.mp hb with z | z
          · exact g.nw b z nb
          · rw [List.mem_singleton.mp z]; exact hp, g.keep⟩
        have R2 : RS K mg H0 av (θ' ++ [p]) sd (μ1 ++ [.lst ds]) σ H' := R'.take rfl m f0 ⟨xs, hl, repL.take _ _ rl⟩
        refine P (.ref p) (θ' ++ [p]) H' [] hgr R2 ⟨⟨p, rfl, ?_⟩, fun _ e => by cases e⟩
        rw [← R'.len]
        simp
      | _ => rw [q] at P; exact P
theorem pd_own {f : EE} (h : PE X e (tE K mg H0 W f)) : PE X e (tE K mg H0 W (eOwn f)) := wkE h fun σ H Q q => own_read q

/-! ### operators, calls by values -/
section
variable (X : Cx)
/-- what is asked of a value's rule: from plain values to the wish -/
def Asks (H0 : Hp) (av θ : List Addr) (sd : Sl) (μ : Mem) (σ : L2.St) (H : Hp) (d : D) (Q : VK) : Prop :=
  ∀ v H' nv, Exh H H' → RS X.K X.mg H0 (nv ++ av) θ sd μ σ H' → relD X.K X.mg H0 av θ H H' nv d v → Q v H'
def OpD (f : Value → Value → Sem Value) (g : Mem → D → D → Option D) : Prop := ∀ H0 : Hp, ∃ r : R2, OpR X f r ∧
  ∀ (av θ : List Addr) (sd : Sl) (μ : Mem) (σ : L2.St) (H : Hp) (dx dy : D) (x y : V) (d : D) (Q : VK), RS X.K X.mg H0 av θ sd μ σ H → rep X.K X.mg H0 av θ H dx x → rep X.K X.mg H0 av θ H dy y → g μ dx dy = some d → Asks X H0 av θ sd μ σ H d Q → r x y H Q
def UnD (f : Value → Sem Value) (g : Mem → D → Option D) : Prop := ∀ H0 : Hp, ∃ r : V → Hp → VK → Prop, UnR X f r ∧
  ∀ (av θ : List Addr) (sd : Sl) (μ : Mem) (σ : L2.St) (H : Hp) (dx : D) (x : V) (d : D) (Q : VK), RS X.K X.mg H0 av θ sd μ σ H → rep X.K X.mg H0 av θ H dx x → g μ dx = some d → Asks X H0 av θ sd μ σ H d Q → r x H Q
def CallD (f : Value) (g : Mem → List D → Option D) : Prop := ∀ H0 : Hp, ∃ r : List V → Hp → VK → Prop, CallR X f r ∧
  ∀ (av θ : List Addr) (sd : Sl) (μ : Mem) (σ : L2.St) (H : Hp) (ds : List D) (xs : List V) (d : D) (Q : VK), RS X.K X.mg H0 av θ sd μ σ H → repL X.K X.mg H0 av θ H ds xs → g μ ds = some d → Asks X H0 av θ sd μ σ H d Q → r xs H Q
/-- a value's method, that changes nothing -/
def MtD (id : String) (g : Mem → D → List D → Option D) : Prop := ∀ H0 : Hp, ∃ r : V → List V → Hp → VK → Prop, MtR X id r ∧
  ∀ (av θ : List Addr) (sd : Sl) (μ : Mem) (σ : L2.St) (H : Hp) (dx : D) (x : V) (ds : List D) (xs : List V) (d : D) (Q : VK), RS X.K X.mg H0 av θ sd μ σ H → rep X.K X.mg H0 av θ H dx x → repL X.K X.mg H0 av θ H ds xs → g μ dx ds = some d →
    Asks X H0 av θ sd μ σ H d Q → r x xs H Q
def IxD (g : Mem → D → D → Option D) : Prop := ∀ H0 : Hp, ∃ r : R2, IxR X r ∧
  ∀ (av θ : List Addr) (sd : Sl) (μ : Mem) (σ : L2.St) (H : Hp) (dx dy : D) (x y : V) (d : D) (Q : VK), RS X.K X.mg H0 av θ sd μ σ H → rep X.K X.mg H0 av θ H dx x → rep X.K X.mg H0 av θ H dy y → g μ dx dy = some d → Asks X H0 av θ sd μ σ H d Q → r x y H Q
end
theorem Asks.same {d : D} {v : V} {Q : VK} (h : Asks X H0 av θ sd μ σ H d Q) (R : RS X.K X.mg H0 av θ sd μ σ H) (r : rep X.K X.mg H0 av θ H d v) (n : ∀ ds, d ≠ .new ds) : Q v H :=
  h v H [] (Exh.refl H) R ⟨r, fun ds e => absurd e (n ds)⟩
/-- a new tuple -/
theorem Asks.tup {ds : List D} {xs : List V} {p : Addr} {Q : VK} (h : Asks X H0 av θ sd μ σ H (.tup ds) Q) (R : RS X.K X.mg H0 av θ sd μ σ H) (r : repL X.K X.mg H0 av θ H ds xs) (hp : H p = none) : Q (.ref p) (upd H p (.tup xs)) :=
  h _ _ [] (Exh.new hp) (R.grow (Exh.new hp)) ⟨⟨p, xs, rfl, .inl ⟨R.notin hp, R.notav hp, .inl upd_same⟩, repL.gr (Gr.of_ex (Exh.new hp)) _ _ r⟩, fun _ e => by cases e⟩
theorem repL.grH {ds : List D} {xs : List V} {H' : Hp} (g : Gr θ θ1 H H') (r : repL K mg H0 av θ H ds xs) : repL K mg H0 av θ1 H' ds xs := repL.gr g ds xs r
/-- a new list -/
theorem Asks.lst {ds : List D} {xs : List V} {p : Addr} {Q : VK} (h : Asks X H0 av θ sd μ σ H (.new ds) Q) (R : RS X.K X.mg H0 av θ sd μ σ H) (r : repL X.K X.mg H0 av θ H ds xs) (hp : H p = none) : Q (.ref p) (upd H p (.lst xs)) :=
  h _ _ [p] (Exh.new hp) (R.push (Exh.new hp) hp upd_same trivial)
    ⟨⟨p, xs, rfl, R.notin hp, R.notav hp, R.h0 hp, upd_same, repL.grH (Gr.of_ex (Exh.new hp)) r⟩, fun ds' e => by cases e; exact ⟨p, xs, rfl, rfl, hp, upd_same, repL.push (Gr.of_ex (Exh.new hp)) hp _ _ r⟩⟩
theorem OpD.or {f : Value → Value → Sem Value} {g g' : Mem → D → D → Option D} (h : OpD X f g) (h' : OpD X f g') : OpD X f (fun μ x y => (g μ x y).or (g' μ x y)) := fun H0 => by
  obtain ⟨r, hr, k⟩ := h H0
  obtain ⟨r', hr', k'⟩ := h' H0
  refine ⟨_, OpR.or hr hr', fun av θ sd μ σ H dx dy x y d Q R rx ry e q => ?_⟩
  have e : (g μ dx dy).or (g' μ dx dy) = some d := e
  cases z : g μ dx dy with
  | some u =>
    rw [z] at e
    obtain rfl : u = d := Option.some.inj e
    exact .inl (k av θ sd μ σ H dx dy x y u Q R rx ry z q)
  | none =>
    rw [z] at e
    exact .inr (k' av θ sd μ σ H dx dy x y d Q R rx ry e q)
theorem CallD.or {f : Value} {g g' : Mem → List D → Option D} (h : CallD X f g) (h' : CallD X f g') : CallD X f (fun μ x => (g μ x).or (g' μ x)) := fun H0 => by
  obtain ⟨r, hr, k⟩ := h H0
  obtain ⟨r', hr', k'⟩ := h' H0
  refine ⟨_, CallR.or hr hr', fun av θ sd μ σ H dx x d Q R rx e q => ?_⟩
  have e : (g μ dx).or (g' μ dx) = some d := e
  cases z : g μ dx with
  | some u =>
    rw [z] at e
    obtain rfl : u = d := Option.some.inj e
    exact .inl (k av θ sd μ σ H dx x u Q R rx z q)
  | none =>
    rw [z] at e
    exact .inr (k' av θ sd μ σ H dx x d Q R rx e q)

variable {a b c : Expr} {pos : Pos} {fa fb fc : EE} {ga : EA} {ta tb : ET}
theorem Post.ask {o : Option D} {Q : VK} (P : Post X.K X.mg H0 W (relD X.K X.mg H0) av θ sd σ H Q (o.map fun d => (Except.ok d, μ))) : ∃ d, o = some d ∧ Asks X H0 av θ sd μ σ H d Q := by
  cases o with
  | none => exact P.elim
  | some d => exact ⟨d, rfl, fun v H' nv e R r => P v θ H' nv (Gr.of_ex e) R r⟩
theorem repG {d : D} {v : V} {H' : Hp} (g : Gr θ θ1 H H') (r : rep K mg H0 av θ H d v) : rep K mg H0 av θ1 H' d v := rep.gr g d v r
theorem pd_bin {op : Operator} {g : Mem → D → D → Option D} (ho : OpD X (binaryOp op) g) (ha : PE X a (tE X.K X.mg H0 W fa)) (hb : PE X b (tE X.K X.mg H0 W fb)) : PE X (.BinOp a op b pos) (tE X.K X.mg H0 W (eBin g fa fb)) := by
  obtain ⟨r, hr, k⟩ := ho H0
  refine wkE (pe_op hr ha hb) fun σ H Q ⟨av, θ, sd, μ, R, P⟩ => ⟨av, θ, sd, μ, R, P.bind antiD fun x μ1 v θ1 H1 nv g1 R1 r1 P1 => ?_⟩
  refine ⟨av, θ1, sd, μ1, R1.plain, P1.bind antiD fun y μ2 w θ2 H2 nw g2 R2 r2 P2 => ?_⟩
  obtain ⟨d, hd, q⟩ := P2.ask
  exact k av θ2 sd μ2 σ H2 x y v w d Q R2.plain (repG g2 r1.1) r2.1 hd q
theorem pd_cmp {op : CmpOp} {g : Mem → D → D → Option D} (ho : OpD X (compareOp op) g) (ha : PE X a (tE X.K X.mg H0 W fa)) (hb : PE X b (tE X.K X.mg H0 W fb)) (hm : behindInMarks op b = false) : PE X (.Compare a [op] [b] pos) (tE X.K X.mg H0 W (eBin g fa fb)) := by
  obtain ⟨r, hr, k⟩ := ho H0
  refine wkE (pe_cmpR hr ha hb hm) fun σ H Q ⟨av, θ, sd, μ, R, P⟩ => ⟨av, θ, sd, μ, R, P.bind antiD fun x μ1 v θ1 H1 nv g1 R1 r1 P1 => ?_⟩
  refine ⟨av, θ1, sd, μ1, R1.plain, P1.bind antiD fun y μ2 w θ2 H2 nw g2 R2 r2 P2 => ?_⟩
  obtain ⟨d, hd, q⟩ := P2.ask
  exact k av θ2 sd μ2 σ H2 x y v w d Q R2.plain (repG g2 r1.1) r2.1 hd q
end
end DL
set_option Elab.async false
set_option linter.all false
set_option maxRecDepth 100000
/-! DL, part c: expressions and tests. -/
namespace DL
open PySem PySem.Spec PyProof.Rows L2
section
variable {K : PySem.W.Frag} {mg : Mg} {H0 : Hp} {W : WX} {X : Cx} {a b c e : Expr} {es rest : List Expr} {pos : Pos} {fa fb fc f : EE} {ga g : EA} {ta tb t u : ET}
theorem pd_un {op : UnaryOp} {g : Mem → D → Option D} (ho : UnD X (unaryOp op) g) (ha : PE X a (tE X.K X.mg H0 W fa)) : PE X (.UnaryOp op a pos) (tE X.K X.mg H0 W (eUn g fa)) := by
  obtain ⟨r, hr, k⟩ := ho H0
  refine wkE (pe_un hr ha) fun σ H Q ⟨av, θ, sd, μ, R, P⟩ => ⟨av, θ, sd, μ, R, P.bind antiD fun x μ1 v θ1 H1 nv g1 R1 r1 P1 => ?_⟩
  obtain ⟨d, hd, q⟩ := P1.ask
  exact k av θ1 sd μ1 σ H1 x v d Q R1.plain r1.1 hd q
/-! ### arguments -/
theorem pd_nil : PA X [] (tA X.K X.mg H0 W eNil) := wkA pa_nil fun σ H Q ⟨av, θ, sd, μ, R, P⟩ => P [] θ H [] Gr.refl R rfl
theorem pd_cons (ha : PE X e (tE X.K X.mg H0 W f)) (hr : PA X es (tA X.K X.mg H0 W g)) (hs : starEach (e :: es) X.env = (false, eval e X.env) :: starEach es X.env := by rfl) : PA X (e :: es) (tA X.K X.mg H0 W (eCons f g)) := by
  refine wkA (pa_cons ha hr hs) fun σ H Q ⟨av, θ, sd, μ, R, P⟩ => ⟨av, θ, sd, μ, R, P.bind antiA fun x μ1 v θ1 H1 nv g1 R1 r1 P1 => ?_⟩
  refine ⟨av, θ1, sd, μ1, R1.plain, P1.bind (rel1 := relA X.K X.mg H0) antiA fun ds μ2 vs θ2 H2 nw g2 R2 r2 P2 => ?_⟩
  exact P2 (v :: vs) θ2 H2 [] Gr.refl R2.plain ⟨v, vs, rfl, repG g2 r1.1, r2⟩
theorem Post.tup {av θ : List Addr} {sd : Sl} {μ : Mem} {σ : L2.St} {H : Hp} {Q : VK} {ds : List D} {xs : List V} (R : RS X.K X.mg H0 av θ sd μ σ H) (r : repL X.K X.mg H0 av θ H ds xs)
    (P : Post X.K X.mg H0 W (relD X.K X.mg H0) av θ sd σ H Q (some (.ok (.tup ds), μ))) {p : Addr} (hp : H p = none) : Q (.ref p) (upd H p (.tup xs)) :=
  Asks.tup (fun v H' nv e R r => P v θ H' nv (Gr.of_ex e) R r) R r hp
theorem Post.lst {av θ : List Addr} {sd : Sl} {μ : Mem} {σ : L2.St} {H : Hp} {Q : VK} {ds : List D} {xs : List V} (R : RS X.K X.mg H0 av θ sd μ σ H) (r : repL X.K X.mg H0 av θ H ds xs)
    (P : Post X.K X.mg H0 W (relD X.K X.mg H0) av θ sd σ H Q (some (.ok (.new ds), μ))) {p : Addr} (hp : H p = none) : Q (.ref p) (upd H p (.lst xs)) :=
  Asks.lst (fun v H' nv e R r => P v θ H' nv (Gr.of_ex e) R r) R r hp
theorem repL.length {av θ : List Addr} {H : Hp} : ∀ {ds : List D} {xs : List V}, repL K mg H0 av θ H ds xs → xs.length = ds.length
  | [], xs, h => by
    have h : xs = [] := h
    rw [h]
    rfl
  | d :: ds, _, ⟨x, r, e, _, t⟩ => by rw [e, List.length_cons, List.length_cons, repL.length t]
theorem pd_tup {k : Nat} (h : PA X es (tA X.K X.mg H0 W g)) : PE X (.Tuple es k pos) (tE X.K X.mg H0 W (eTup g)) := by
  refine wkE (pe_tup h) fun σ H Q ⟨av, θ, sd, μ, R, P⟩ => ⟨av, θ, sd, μ, R, P.bind antiD fun ds μ1 vs θ1 H1 nv g1 R1 r1 P1 => ?_⟩
  by_cases z : ds.length ≤ sizeLine
  · rw [if_pos z] at P1
    exact ⟨by rw [repL.length r1]; exact z, fun p hp => P1.tup R1.plain r1 hp⟩
  · rw [if_neg z] at P1; exact P1.elim
theorem pd_lst (h : PA X es (tA X.K X.mg H0 W g)) : PE X (.List es pos) (tE X.K X.mg H0 W (eLst g)) := by
  refine wkE (pe_lst h) fun σ H Q ⟨av, θ, sd, μ, R, P⟩ => ⟨av, θ, sd, μ, R, P.bind antiD fun ds μ1 vs θ1 H1 nv g1 R1 r1 P1 => ?_⟩
  by_cases z : ds.length ≤ sizeLine
  · rw [if_pos z] at P1
    exact ⟨by rw [repL.length r1]; exact z, fun p hp => P1.lst R1.plain r1 hp⟩
  · rw [if_neg z] at P1; exact P1.elim
/-! ### built-ins -/
theorem pd_callB {x : Str} {id : String} {p : Pos} {gg : Mem → List D → Option D} (hc : CallD X (.builtin id) gg) (hg : Gl X x) (hm : X.mg x = none) (hv : bootBuiltins x = some (.builtin id)) (ha : PA X (e :: es) (tA X.K X.mg H0 W g))
    (hn : x ≠ "__name__" := by decide) (hdb : (x == ("__debug__" : Str)) = false := by decide) (he : starEach (e :: es) X.env = (false, eval e X.env) :: starEach es X.env := by rfl) (hpl : (backTo pos (starEach es X.env)).any (·.1) = false := by rfl) :
    PE X (.Call (.Name x p) (e :: es) [] pos) (tE X.K X.mg H0 W (eCB gg g)) := by
  obtain ⟨r, hr, k⟩ := hc H0
  refine wkE (pe_callB hr hg hm hv ha hn hdb he hpl) fun σ H Q ⟨av, θ, sd, μ, R, P⟩ => ⟨av, θ, sd, μ, R, P.bind antiD fun ds μ1 vs θ1 H1 nv g1 R1 r1 P1 => ?_⟩
  obtain ⟨d, hd, q⟩ := P1.ask
  exact k av θ1 sd μ1 σ H1 ds vs d Q R1.plain r1 hd q
theorem pd_callTy {x : Str} {T : String} {p : Pos} {gg : Mem → List D → Option D} (hc : CallD X (.type T) gg) (hg : Gl X x) (hm : X.mg x = none) (hv : bootBuiltins x = some (.type T)) (ha : PA X (e :: es) (tA X.K X.mg H0 W g))
    (hn : x ≠ "__name__" := by decide) (hdb : (x == ("__debug__" : Str)) = false := by decide) (he : starEach (e :: es) X.env = (false, eval e X.env) :: starEach es X.env := by rfl) (hpl : (backTo pos (starEach es X.env)).any (·.1) = false := by rfl) :
    PE X (.Call (.Name x p) (e :: es) [] pos) (tE X.K X.mg H0 W (eCB gg g)) := by
  obtain ⟨r, hr, k⟩ := hc H0
  refine wkE (pe_callTy hr hg hm hv ha hn hdb he hpl) fun σ H Q ⟨av, θ, sd, μ, R, P⟩ => ⟨av, θ, sd, μ, R, P.bind antiD fun ds μ1 vs θ1 H1 nv g1 R1 r1 P1 => ?_⟩
  obtain ⟨d, hd, q⟩ := P1.ask
  exact k av θ1 sd μ1 σ H1 ds vs d Q R1.plain r1 hd q
/-! ### places, slices -/
theorem pd_ix {gg : Mem → D → D → Option D} (hr : IxD X gg) (ha : PE X a (tE X.K X.mg H0 W fa)) (hb : PE X b (tE X.K X.mg H0 W fb)) (hs : PlainIx b) : PE X (.Subscript a b pos) (tE X.K X.mg H0 W (eBin gg fa fb)) := by
  obtain ⟨r, hr, k⟩ := hr H0
  refine wkE (pe_ix hr ha hb hs) fun σ H Q ⟨av, θ, sd, μ, R, P⟩ => ⟨av, θ, sd, μ, R, P.bind antiD fun x μ1 v θ1 H1 nv g1 R1 r1 P1 => ?_⟩
  refine ⟨av, θ1, sd, μ1, R1.plain, P1.bind antiD fun y μ2 w θ2 H2 nw g2 R2 r2 P2 => ?_⟩
  obtain ⟨d, hd, q⟩ := P2.ask
  exact k av θ2 sd μ2 σ H2 x y v w d Q R2.plain (repG g2 r1.1) r2.1 hd q
abbrev EO := Sl → Mem → R3 (Option Int)
def oNone : EO := fun _ μ => some (.ok none, μ)
def oSome (f : EE) : EO := fun sd μ => bE (f sd μ) fun d μ1 => match d with
  | .int i => some (.ok (some i), μ1)
  | _ => none
def relO : Rel (Option Int) (Option Int) := fun _ _ _ _ _ b c => c = b
theorem antiO : Anti relO := fun _ _ _ _ _ _ _ _ _ r => r
def tO (K : PySem.W.Frag) (mg : Mg) (H0 : Hp) (W : WX) (f : EO) : TO := fun σ H Q => ∃ av θ sd μ, RS K mg H0 av θ sd μ σ H ∧ Post K mg H0 W relO av θ sd σ H Q (f sd μ)
theorem wkO {eo : Option Expr} {t t' : TO} (h : PO X eo t) (w : ∀ σ H Q, t' σ H Q → t σ H Q) : PO X eo t' := ⟨fun pins s σ H Q I q => h.run pins s σ H Q I (w σ H Q q)⟩
theorem pd_onone : PO X none (tO X.K X.mg H0 W oNone) := wkO po_none fun σ H Q ⟨av, θ, sd, μ, R, P⟩ => P none θ H [] Gr.refl R rfl
theorem pd_osome (h : PE X e (tE X.K X.mg H0 W f)) : PO X (some e) (tO X.K X.mg H0 W (oSome f)) := by
  refine wkO (po_some h) fun σ H Q ⟨av, θ, sd, μ, R, P⟩ => ⟨av, θ, sd, μ, R, P.bind antiO fun x μ1 v θ1 H1 nv g1 R1 r1 P1 => ?_⟩
  cases x with
  | int i => exact ⟨i, r1.1, P1 (some i) θ1 H1 [] Gr.refl R1.plain rfl⟩
  | _ => exact P1.elim
def SlD (X : Cx) (g : Mem → D → Option Int → Option Int → Option D) : Prop := ∀ H0 : Hp, ∃ r : V → Option Int → Option Int → Hp → VK → Prop, SlR X r ∧
  ∀ (av θ : List Addr) (sd : Sl) (μ : Mem) (σ : L2.St) (H : Hp) (dx : D) (x : V) (lo hi : Option Int) (d : D) (Q : VK), RS X.K X.mg H0 av θ sd μ σ H → rep X.K X.mg H0 av θ H dx x → g μ dx lo hi = some d → Asks X H0 av θ sd μ σ H d Q → r x lo hi H Q
def eSl (g : Mem → D → Option Int → Option Int → Option D) (f : EE) (l h : EO) : EE := fun sd μ => bE (f sd μ) fun x μ1 => bE (l sd μ1) fun i μ2 => bE (h sd μ2) fun j μ3 => (g μ3 x i j).map fun d => (.ok d, μ3)
theorem pd_slice {gg : Mem → D → Option Int → Option Int → Option D} {lo hi : Option Expr} {p2 : Pos} {fl fh : EO} (hr : SlD X gg) (he : PE X e (tE X.K X.mg H0 W f)) (hl : PO X lo (tO X.K X.mg H0 W fl)) (hh : PO X hi (tO X.K X.mg H0 W fh)) :
    PE X (.Subscript e (.Slice lo hi none p2) pos) (tE X.K X.mg H0 W (eSl gg f fl fh)) := by
  obtain ⟨r, hr, k⟩ := hr H0
  refine wkE (pe_slice hr he hl hh) fun σ H Q ⟨av, θ, sd, μ, R, P⟩ => ⟨av, θ, sd, μ, R, P.bind antiD fun x μ1 v θ1 H1 nv g1 R1 r1 P1 => ?_⟩
  refine ⟨av, θ1, sd, μ1, R1.plain, P1.bind (rel1 := relO) antiD fun i μ2 io θ2 H2 nw g2 R2 r2 P2 => ?_⟩
  have r2 : io = i := r2
  subst r2
  refine ⟨av, θ2, sd, μ2, R2.plain, P2.bind (rel1 := relO) antiD fun j μ3 jo θ3 H3 nu g3 R3 r3 P3 => ?_⟩
  have r3 : jo = j := r3
  subst r3
  obtain ⟨d, hd, q⟩ := P3.ask
  exact k av θ3 sd μ3 σ H3 x v io jo d Q R3.plain (repG g3 (repG g2 r1.1)) hd q
/-! ### tests -/
theorem pq_val (h : PE X e (tE X.K X.mg H0 W f)) (he : ∀ whole, isTrue e X.env whole = (do let v ← whole; standAt e.pos; holding [v] (truthy v)) := by intro _; rfl) : PT X e (tT X.K X.mg H0 W (qB f)) := by
  refine wkT (pt_val h he) fun σ H Q ⟨av, θ, sd, μ, R, P⟩ => ⟨av, θ, sd, μ, R, P.bind antiB fun x μ1 v θ1 H1 nv g1 R1 r1 P1 => ?_⟩
  cases x with
  | bl k => exact ⟨k, r1.1, P1 k θ1 H1 [] Gr.refl R1.plain rfl⟩
  | _ => exact P1.elim
theorem pq_cmp {op : CmpOp} {gg : Mem → D → D → Option D} (ho : OpD X (compareOp op) gg) (ha : PE X a (tE X.K X.mg H0 W fa)) (hb : PE X b (tE X.K X.mg H0 W fb)) (hm : behindInMarks op b = false) : PT X (.Compare a [op] [b] pos) (tT X.K X.mg H0 W (qB (eBin gg fa fb))) := by
  obtain ⟨r, hr, k⟩ := ho H0
  refine wkT (pt_cmpR hr ha hb hm) fun σ H Q ⟨av, θ, sd, μ, R, P⟩ => ?_
  have P : Post X.K X.mg H0 W relB av θ sd σ H Q (bE (fa sd μ) fun x μ1 => bE (bE (fb sd μ1) fun y μ2 => (gg μ2 x y).map fun d => (.ok d, μ2)) fun x μ1 => match x with | .bl b => some (.ok b, μ1) | _ => none) := by
    unfold qB eBin at P
    cases h : fa sd μ with
    | none => rw [h] at P; exact P
    | some z =>
      obtain ⟨r, m⟩ := z
      rw [h] at P
      cases r <;> exact P
  refine ⟨av, θ, sd, μ, R, P.bind antiB fun x μ1 v θ1 H1 nv g1 R1 r1 P1 => ?_⟩
  have P1 : Post X.K X.mg H0 W relB av θ1 sd σ H1 Q (bE (fb sd μ1) fun y μ2 => bE ((gg μ2 x y).map fun d => (Except.ok d, μ2)) fun x μ1 => match x with | .bl b => some (.ok b, μ1) | _ => none) := by
    cases h : fb sd μ1 with
    | none => rw [h] at P1; exact P1
    | some z =>
      obtain ⟨r, m⟩ := z
      rw [h] at P1
      cases r <;> exact P1
  refine ⟨av, θ1, sd, μ1, R1.plain, P1.bind antiB fun y μ2 w θ2 H2 nw g2 R2 r2 P2 => ?_⟩
  cases h : gg μ2 x y with
  | none => rw [h] at P2; exact P2.elim
  | some d =>
    rw [h] at P2
    refine k av θ2 sd μ2 σ H2 x y v w d _ R2.plain (repG g2 r1.1) r2.1 h fun u H' nu e R3 r3 => ?_
    cases d with
    | bl q => exact ⟨q, r3.1, P2 q θ2 H' [] (Gr.of_ex e) R3.plain rfl⟩
    | _ => exact P2.elim
theorem pq_not (ha : PT X a (tT X.K X.mg H0 W ta)) : PT X (.UnaryOp .Not a pos) (tT X.K X.mg H0 W (qNot ta)) :=
  wkT (pt_not ha) fun σ H Q ⟨av, θ, sd, μ, R, P⟩ => ⟨av, θ, sd, μ, R, P.bind antiB fun x μ1 v θ1 H1 nv g1 R1 r1 P1 => by
    have r1 : v = x := r1
    subst r1
    exact P1 (!v) θ1 H1 [] Gr.refl R1.plain rfl⟩
theorem pq_and1 (ha : PT X a (tT X.K X.mg H0 W ta)) : PW X (.BoolOp .And [a] pos) (tT X.K X.mg H0 W ta) := pw_and1 ha
theorem pq_or1 (ha : PT X a (tT X.K X.mg H0 W ta)) : PW X (.BoolOp .Or [a] pos) (tT X.K X.mg H0 W ta) := pw_or1 ha
theorem pq_and (ha : PT X a (tT X.K X.mg H0 W ta)) (hb : PW X (.BoolOp .And (b :: rest) pos) (tT X.K X.mg H0 W tb)) : PW X (.BoolOp .And (a :: b :: rest) pos) (tT X.K X.mg H0 W (qAnd ta tb)) :=
  wkW (pw_and ha hb) fun σ H Q ⟨av, θ, sd, μ, R, P⟩ => ⟨av, θ, sd, μ, R, P.bind antiB fun x μ1 v θ1 H1 nv g1 R1 r1 P1 => by
    have r1 : v = x := r1
    subst r1
    cases v with
    | true => exact ⟨av, θ1, sd, μ1, R1.plain, P1⟩
    | false => exact P1 false θ1 H1 [] Gr.refl R1.plain rfl⟩
theorem pq_or (ha : PT X a (tT X.K X.mg H0 W ta)) (hb : PW X (.BoolOp .Or (b :: rest) pos) (tT X.K X.mg H0 W tb)) : PW X (.BoolOp .Or (a :: b :: rest) pos) (tT X.K X.mg H0 W (qOr ta tb)) :=
  wkW (pw_or ha hb) fun σ H Q ⟨av, θ, sd, μ, R, P⟩ => ⟨av, θ, sd, μ, R, P.bind antiB fun x μ1 v θ1 H1 nv g1 R1 r1 P1 => by
    have r1 : v = x := r1
    subst r1
    cases v with
    | true => exact P1 true θ1 H1 [] Gr.refl R1.plain rfl
    | false => exact ⟨av, θ1, sd, μ1, R1.plain, P1⟩⟩
/-! ### and, or, not, if .. else as values -/
theorem pd_if (hc : PT X c (tT X.K X.mg H0 W ta)) (ha : PE X a (tE X.K X.mg H0 W fa)) (hb : PE X b (tE X.K X.mg H0 W fb)) : PE X (.IfExp c a b pos) (tE X.K X.mg H0 W (eIf ta fa fb)) :=
  wkE (pe_ifExp hc ha hb) fun σ H Q ⟨av, θ, sd, μ, R, P⟩ => ⟨av, θ, sd, μ, R, P.bind antiD fun x μ1 v θ1 H1 nv g1 R1 r1 P1 => by
    have r1 : v = x := r1
    subst r1
    cases v with
    | true => exact ⟨av, θ1, sd, μ1, R1.plain, P1⟩
    | false => exact ⟨av, θ1, sd, μ1, R1.plain, P1⟩⟩
theorem pd_one {op : BoolOp} (ha : PE X a (tE X.K X.mg H0 W fa)) : PE X (.BoolOp op [a] pos) (tE X.K X.mg H0 W fa) := pe_one ha
theorem pd_and (ha : PE X a (tE X.K X.mg H0 W fa)) (hb : PE X (.BoolOp .And (b :: rest) pos) (tE X.K X.mg H0 W fb)) : PE X (.BoolOp .And (a :: b :: rest) pos) (tE X.K X.mg H0 W (eAnd fa fb)) :=
  wkE (pe_and ha hb) fun σ H Q ⟨av, θ, sd, μ, R, P⟩ => ⟨av, θ, sd, μ, R, P.bind antiD fun x μ1 v θ1 H1 nv g1 R1 r1 P1 => by
    cases x with
    | bl k =>
      refine ⟨k, r1.1, ?_⟩
      cases k with
      | true => exact ⟨av, θ1, sd, μ1, R1.plain, P1⟩
      | false => exact P1 (.bl false) θ1 H1 [] Gr.refl R1.plain ⟨rfl, fun _ e => by cases e⟩
    | _ => exact P1.elim⟩
theorem pd_or (ha : PE X a (tE X.K X.mg H0 W fa)) (hb : PE X (.BoolOp .Or (b :: rest) pos) (tE X.K X.mg H0 W fb)) : PE X (.BoolOp .Or (a :: b :: rest) pos) (tE X.K X.mg H0 W (eOr fa fb)) :=
  wkE (pe_or ha hb) fun σ H Q ⟨av, θ, sd, μ, R, P⟩ => ⟨av, θ, sd, μ, R, P.bind antiD fun x μ1 v θ1 H1 nv g1 R1 r1 P1 => by
    cases x with
    | bl k =>
      refine ⟨k, r1.1, ?_⟩
      cases k with
      | true => exact P1 (.bl true) θ1 H1 [] Gr.refl R1.plain ⟨rfl, fun _ e => by cases e⟩
      | false => exact ⟨av, θ1, sd, μ1, R1.plain, P1⟩
    | _ => exact P1.elim⟩
theorem pd_not (ha : PE X a (tE X.K X.mg H0 W fa)) : PE X (.UnaryOp .Not a pos) (tE X.K X.mg H0 W (eNot fa)) :=
  wkE (pe_not ha) fun σ H Q ⟨av, θ, sd, μ, R, P⟩ => ⟨av, θ, sd, μ, R, P.bind antiD fun x μ1 v θ1 H1 nv g1 R1 r1 P1 => by
    cases x with
    | bl k => exact ⟨k, r1.1, P1 (.bl (!k)) θ1 H1 [] Gr.refl R1.plain ⟨rfl, fun _ e => by cases e⟩⟩
    | _ => exact P1.elim⟩
end
end DL
set_option Elab.async false
set_option linter.all false
set_option maxRecDepth 100000
/-! DL, part d: statements, targets, loops, comprehensions. -/
namespace DL
open PySem PySem.Spec PyProof.Rows L2

/-! ### statements as plain functions -/
def sSkip : SS := fun sd μ => some (.nx, sd, μ)
def sSeq (f g : SS) : SS := fun sd μ => match f sd μ with
  | some (.nx, sd1, μ1) => g sd1 μ1
  | r => r
/-- what a value's evaluation does at a statement's end -/
def bS (m : R3 D) (sd : Sl) (k : D → Mem → SR) : SR := match m with
  | none => none
  | some (.error e, μ) => some (.exc e, sd, μ)
  | some (.ok x, μ) => k x μ
def sDrop (f : EE) : SS := fun sd μ => bS (f sd μ) sd fun _ μ1 => some (.nx, sd, μ1)
def sIf (t : ET) (a b : SS) : SS := fun sd μ => match t sd μ with
  | none => none
  | some (.error e, μ1) => some (.exc e, sd, μ1)
  | some (.ok true, μ1) => a sd μ1
  | some (.ok false, μ1) => b sd μ1
def sBreak : SS := fun sd μ => some (.brk, sd, μ)
def sCont : SS := fun sd μ => some (.ct, sd, μ)
/-- a target -/
abbrev TgD := Sl → Mem → D → Option (Sl × Mem)
def gD (i : Nat) : TgD := fun sd μ d => match d with
  | .new _ => none
  | d => some (sd.set i (some d), μ)
def sAsg (f : EE) (t : TgD) : SS := fun sd μ => bS (f sd μ) sd fun d μ1 => (t sd μ1 d).map fun z => (.nx, z.1, z.2)

/-! ### what is handed back -/
/-- a value on its way out of the def -/
def outD (μ : Mem) (d : D) : Option D := match d with
  | .new ds => if plainL ds then some (.new ds) else none
  | .ref n => match μ[n]? with
    | some (.lst ds) => if plainL ds then some (.new ds) else none
    | some (.ins C fs) => if plainF fs then some (.obj C fs) else none
    | none => none
  | d => if plain d then some d else none
def sRet (f : EE) : SS := fun sd μ => bS (f sd μ) sd fun d μ1 => (outD μ1 d).map fun d' => (.ret d', sd, μ1)
def sRetN : SS := fun sd μ => some (.ret .non, sd, μ)

section
variable {K : PySem.W.Frag} {mg : Mg} {H0 H H' : Hp} {av θ : List Addr}
theorem TupAt.out {a : Addr} {xs : List V} (h : TupAt K av θ H a xs) : TupAt K av [] H a xs := by
  rcases h with ⟨n, m, h⟩ | h
  · exact .inl ⟨by simp, m, h⟩
  · exact .inr h
mutual
theorem rep.out : ∀ (d : D) (v : V), plain d = true → rep K mg H0 av θ H d v → rep K mg H0 av [] H d v
  | .non, _, _, h => h
  | .bl _, _, _, h => h
  | .int _, _, _, h => h
  | .str _, _, _, h => h
  | .glob _, _, _, h => h
  | .ty _, _, _, h => h
  | .tup ds, _, p, ⟨a, xs, e, t, r⟩ => ⟨a, xs, e, t.out, repL.out ds xs (by simpa [plain] using p) r⟩
  | .fr ds, _, p, ⟨a, xs, e, n, m, f, t, r⟩ => ⟨a, xs, e, by simp, m, f, t, repL.out ds xs (by simpa [plain] using p) r⟩
  | .obj _ fs, _, p, ⟨a, c, dx, vs, e, n, m, hc, t, r⟩ => ⟨a, c, dx, vs, e, by simp, m, hc, t, repF.out fs vs (by simpa [plain] using p) r⟩
  | .new _, _, p, _ => by simp [plain] at p
  | .lst _, _, p, _ => by simp [plain] at p
  | .lck _, _, p, _ => by simp [plain] at p
  | .ref _, _, p, _ => by simp [plain] at p
  | .bor _ _, _, p, _ => by simp [plain] at p
  | .exh _ _ _ _, _, p, _ => by simp [plain] at p
theorem repL.out : ∀ (ds : List D) (xs : List V), plainL ds = true → repL K mg H0 av θ H ds xs → repL K mg H0 av [] H ds xs
  | [], _, _, h => h
  | d :: ds, _, p, ⟨x, r, e, h, t⟩ => by
    simp only [plainL, Bool.and_eq_true] at p
    exact ⟨x, r, e, rep.out d x p.1 h, repL.out ds r p.2 t⟩
theorem repF.out : ∀ (ds : List (Str × D)) (xs : List (Str × V)), plainF ds = true → repF K mg H0 av θ H ds xs → repF K mg H0 av [] H ds xs
  | [], _, _, h => h
  | (_, d) :: ds, _, p, ⟨x, r, e, h, t⟩ => by
    simp only [plainF, Bool.and_eq_true] at p
    exact ⟨x, r, e, rep.out d x p.1 h, repF.out ds r p.2 t⟩
end
theorem repL.outp {p : Addr} {ds : List D} {xs : List V} (q : plainL ds = true) (r : repL K mg H0 (p :: av) θ H ds xs) : repL K mg H0 (p :: av) [] H ds xs := repL.out _ _ q r
theorem out_ok {sd : Sl} {μ : Mem} {σ : L2.St} {H1 : Hp} {nv : List Addr} {d d' : D} {v : V} (R : RS K mg H0 av θ sd μ σ H) (r : relD K mg H0 av θ H1 H nv d v) (h : outD μ d = some d') : repR K mg H0 av H d' v := by
  unfold outD at h
  split at h
  · rename_i ds
    split at h
    · rename_i p
      cases h
      obtain ⟨⟨a, xs, e, n, m, f, t, r⟩, rn⟩ := r
      obtain ⟨p1, ys, e1, _, _, t1, r1⟩ := rn ds rfl
      exact ⟨p, ⟨a, xs, e, by simp, m, f, t, repL.out _ _ p r⟩, fun _ e => by cases e; exact ⟨p1, ys, e1, t1, repL.outp p r1⟩⟩
    · cases h
  · rename_i n
    obtain ⟨⟨a, rfl, hn⟩, _⟩ := r
    have ha : a ∈ θ := List.mem_of_getElem? hn
    split at h
    · rename_i ds hm
      split at h
      · rename_i p
        cases h
        obtain ⟨xs, t, r⟩ := R.mem n _ a hm hn
        have k : Goes av (a :: av) θ θ H H := fun b o n1 m1 e1 => ⟨n1, fun q => (List.mem_cons.mp q).elim (fun z => n1 (by rw [z]; exact ha)) m1, e1⟩
        exact ⟨p, ⟨a, xs, rfl, by simp, fun q => (R.avs a q).1 ha, R.fr a ha, t, repL.out _ _ p r⟩, fun _ e => by cases e; exact ⟨a, xs, rfl, t, repL.outp p (repL.tr (fun _ _ h => h) k _ _ r)⟩⟩
      · cases h
    · rename_i C fs hm
      split at h
      · rename_i p
        cases h
        obtain ⟨c, dx, vs, hc, t, r⟩ := R.mem n _ a hm hn
        exact ⟨p, ⟨a, c, dx, vs, rfl, by simp, fun q => (R.avs a q).1 ha, hc, t, repF.out _ _ p r⟩, fun _ e => by cases e⟩
      · cases h
    · cases h
  · rename_i hn1 hn2
    split at h
    · rename_i p
      cases h
      refine ⟨?_, rep.out _ _ p r.1, fun ds e => absurd e (hn1 ds)⟩
      cases d <;> first | exact p | exact absurd rfl (hn1 _)
    · cases h
end

section
variable {H0 : Hp} {W : WX} {X : Cx} {a b c e : Expr} {es : List Expr} {st : Stmt} {sts body : List Stmt} {pos : Pos} {f : EE} {fs gs : SS} {t : ET} {av θ : List Addr} {sd : Sl} {μ : Mem} {σ : L2.St} {H : Hp}
theorem ps_nil : PSs X [] (tS X.K X.mg H0 W sSkip) := wkSs pss_nil fun E σ H ⟨av, θ, sd, μ, R, P⟩ => P σ θ H Gr.refl R
theorem ps_cons (h1 : PS X st (tS X.K X.mg H0 W fs)) (h2 : PSs X sts (tS X.K X.mg H0 W gs)) : PSs X (st :: sts) (tS X.K X.mg H0 W (sSeq fs gs)) := by
  refine wkSs (pss_cons h1 h2) fun E σ H ⟨av, θ, sd, μ, R, P⟩ => ⟨av, θ, sd, μ, R, ?_⟩
  unfold sSeq at P
  match h : fs sd μ, P with
  | none, P => exact P
  | some (.nx, sd1, μ1), P => exact fun σ' θ' H' g R' => ⟨av, θ', sd1, μ1, R', P.rebase g⟩
  | some (.ret d, sd1, μ1), P => exact P
  | some (.brk, sd1, μ1), P => exact P
  | some (.ct, sd1, μ1), P => exact P
  | some (.exc e, sd1, μ1), P => exact P
theorem ps_one (h1 : PS X st (tS X.K X.mg H0 W fs)) : PSs X [st] (tS X.K X.mg H0 W fs) := pss_one h1
/-- a value, then what a statement does with it -/
theorem PostS.val {E : Ends} {m : R3 D} {k : D → Mem → SR} {Q : VK} (R : RS X.K X.mg H0 av θ sd μ σ H) (P : PostS X.K X.mg H0 W av θ H E (bS m sd k))
    (h : ∀ (x : D) (μ1 : Mem) (y : V) (θ1 : List Addr) (H1 : Hp) (nv : List Addr), Gr θ θ1 H H1 → RS X.K X.mg H0 (nv ++ av) θ1 sd μ1 σ H1 → relD X.K X.mg H0 av θ1 H H1 nv x y → PostS X.K X.mg H0 W av θ1 H1 E (k x μ1) → Q y H1) :
    Post X.K X.mg H0 W (relD X.K X.mg H0) av θ sd σ H Q m := by
  match m, P with
  | some (.ok x, μ'), P => exact fun y θ' H' nv g R r => h x μ' y θ' H' nv g R r (PostS.rebase (show PostS X.K X.mg H0 W av θ H E (k x μ') from P) g)
  | some (.error e, μ'), P => exact fun cls dd θ' H' g R r => P cls dd σ θ' H' g R r
theorem ps_drop (he : PE X e (tE X.K X.mg H0 W f)) (hs : swapsWith e none pos.line X.env = pure false := by rfl) : PS X (.Expr e pos) (tS X.K X.mg H0 W (sDrop f)) :=
  wkS (L2.ps_expr he hs) fun E σ H ⟨av, θ, sd, μ, R, P⟩ => ⟨av, θ, sd, μ, R, P.val R fun x μ1 y θ1 H1 nv g R1 r P1 => P1 σ θ1 H1 Gr.refl R1.plain⟩
theorem ps_iff {c : Expr} {a b : List Stmt} (hc : PT X c (tT X.K X.mg H0 W t)) (ha : PSs X a (tS X.K X.mg H0 W fs)) (hb : PSs X b (tS X.K X.mg H0 W gs)) : PS X (.If c a b pos) (tS X.K X.mg H0 W (sIf t fs gs)) := by
  refine wkS (L2.ps_if hc ha hb) fun E σ H ⟨av, θ, sd, μ, R, P⟩ => ⟨av, θ, sd, μ, R, ?_⟩
  unfold sIf at P
  match h : t sd μ, P with
  | none, P => exact P
  | some (.error e, μ1), P => exact fun cls dd θ' H' g R r => P cls dd σ θ' H' g R r
  | some (.ok true, μ1), P =>
    intro y θ' H' nv g R' r
    have r : y = true := r
    subst r
    exact ⟨av, θ', sd, μ1, R'.plain, P.rebase g⟩
  | some (.ok false, μ1), P =>
    intro y θ' H' nv g R' r
    have r : y = false := r
    subst r
    exact ⟨av, θ', sd, μ1, R'.plain, P.rebase g⟩
theorem ps_return (he : PE X e (tE X.K X.mg H0 W f)) : PS X (.Return (some e) pos) (tS X.K X.mg H0 W (sRet f)) := by
  refine wkS (L2.ps_ret he) fun E σ H ⟨av, θ, sd, μ, R, P⟩ => ⟨av, θ, sd, μ, R, P.val R fun x μ1 y θ1 H1 nv g R1 r P1 => ?_⟩
  cases h : outD μ1 x with
  | none => rw [h] at P1; exact P1.elim
  | some d => rw [h] at P1; exact P1 y H1 R1.ex (out_ok R1.plain r h)
theorem ps_returnN : PS X (.Return none pos) (tS X.K X.mg H0 W sRetN) := wkS L2.ps_retN fun E σ H ⟨av, θ, sd, μ, R, P⟩ => P .non H R.ex ⟨rfl, rfl, fun _ e => by cases e⟩
theorem ps_brk : PS X (.Break pos) (tS X.K X.mg H0 W sBreak) := wkS L2.ps_break fun E σ H ⟨av, θ, sd, μ, R, P⟩ => P σ θ H Gr.refl R
theorem ps_ct : PS X (.Continue pos) (tS X.K X.mg H0 W sCont) := wkS L2.ps_continue fun E σ H ⟨av, θ, sd, μ, R, P⟩ => P σ θ H Gr.refl R
theorem ps_skip : PS X (.Pass pos) (tS X.K X.mg H0 W sSkip) := wkS L2.ps_pass fun E σ H ⟨av, θ, sd, μ, R, P⟩ => P σ θ H Gr.refl R

/-! ### targets: is, the slots that may turn -/
def PostG (K : PySem.W.Frag) (mg : Mg) (H0 : Hp) (is : List Nat) (av θ : List Addr) (σ : L2.St) (H : Hp) (Q : L2.St → Hp → Prop) (o : Option (Sl × Mem)) : Prop := match o with
  | none => False
  | some (sd', μ') => ∀ σ' θ' H', Gr θ θ' H H' → RS K mg H0 av θ' sd' μ' σ' H' → σ'.length = σ.length → (∀ i, i ∉ is → σ'[i]? = σ[i]?) → Q σ' H'
def tG (K : PySem.W.Frag) (mg : Mg) (H0 : Hp) (is : List Nat) (t : TgD) : TG := fun v σ H Q => ∃ av θ sd μ d, RS K mg H0 av θ sd μ σ H ∧ rep K mg H0 av θ H d v ∧ PostG K mg H0 is av θ σ H Q (t sd μ d)
theorem wkG {tg : Expr} {g g' : TG} (h : PG X tg g) (w : ∀ v σ H Q, g' v σ H Q → g v σ H Q) : PG X tg g' := ⟨fun pins s σ H v u Q I r q => h.run pins s σ H v u Q I r (w v σ H Q q)⟩
theorem pgd_name (i : Nat) {x : Str} (hN : X.N.Nodup) (hi : X.N[i]? = some x := by rfl) (hx : Loc X.env.scope x := by first | exact Or.inl rfl | exact Or.inr rfl) (hf : X.fn x = true ∨ X.env.scope.names.lookup x = some .local := by first | exact .inl rfl | exact .inr rfl) :
    PG X (.Name x pos) (tG X.K X.mg H0 [i] (gD i)) := by
  refine wkG (pg_name hN hi hx hf) fun v σ H Q ⟨av, θ, sd, μ, d, R, r, P⟩ => ?_
  have P : PostG X.K X.mg H0 [i] av θ σ H Q (some (sd.set i (some d), μ)) := by
    cases d <;> first | exact P | exact P.elim
  exact P _ θ H Gr.refl (R.set i r) (List.length_set ..) fun j hj => List.getElem?_set_ne (fun e => hj (by rw [e]; exact List.mem_singleton.mpr rfl))
theorem ps_assign {tg : Expr} {is : List Nat} {t : TgD} (he : PE X e (tE X.K X.mg H0 W f)) (hg : PG X tg (tG X.K X.mg H0 is t)) (hs : swapsWithSole [tg] e pos.line X.env = pure false := by rfl) (hw : swappedStores [tg] e X.env = pure none := by rfl)
    (h1 : (assignEach [tg] X.env).map (·.2) = [assign tg X.env] := by rfl) : PS X (.Assign [tg] e pos) (tS X.K X.mg H0 W (sAsg f t)) := by
  refine wkS (ps_asg he hg hs hw h1) fun E σ H ⟨av, θ, sd, μ, R, P⟩ => ⟨av, θ, sd, μ, R, P.val R fun x μ1 y θ1 H1 nv g R1 r P1 => ?_⟩
  refine ⟨av, θ1, sd, μ1, x, R1.plain, r.1, ?_⟩
  cases h : t sd μ1 x with
  | none => rw [h] at P1; exact P1.elim
  | some z => rw [h] at P1; exact fun σ' θ' H' g R' _ _ => P1 σ' θ' H' g R'
/-! tuple targets -/
/-- the parts of what is unpacked -/
def partsD (μ : Mem) (d : D) : Option (List D) := match d with
  | .tup ds => some ds
  | _ => none
abbrev TgsD := Sl → Mem → List D → Option (Sl × Mem)
def gNilD : TgsD := fun sd μ ds => match ds with
  | [] => some (sd, μ)
  | _ => none
def gConsD (t : TgD) (u : TgsD) : TgsD := fun sd μ ds => match ds with
  | d :: r => (t sd μ d).bind fun z => u z.1 z.2 r
  | [] => none
def gTupD (u : TgsD) : TgD := fun sd μ d => match d with
  | .tup ds => u sd μ ds
  | _ => none
def tGs (K : PySem.W.Frag) (mg : Mg) (H0 : Hp) (is : List Nat) (t : TgsD) : TGs := fun vs σ H Q => ∃ av θ sd μ ds, RS K mg H0 av θ sd μ σ H ∧ repL K mg H0 av θ H ds vs ∧ PostG K mg H0 is av θ σ H Q (t sd μ ds)
theorem wkGs {tgs : List Expr} {g g' : TGs} (h : PGs X tgs g) (w : ∀ v σ H Q, g' v σ H Q → g v σ H Q) : PGs X tgs g' := ⟨fun pins s σ H v u Q I r q => h.run pins s σ H v u Q I r (w v σ H Q q)⟩
theorem pgd_nil : PGs X [] (tGs X.K X.mg H0 [] gNilD) := by
  refine wkGs pgs_nil fun v σ H Q ⟨av, θ, sd, μ, ds, R, r, P⟩ => ?_
  cases ds with
  | nil => exact ⟨r, P σ θ H Gr.refl R rfl fun _ _ => rfl⟩
  | cons d ds => exact P.elim
theorem PostG.more {is js : List Nat} {Q : L2.St → Hp → Prop} {o : Option (Sl × Mem)} (h : ∀ i ∈ is, i ∈ js) (P : PostG X.K X.mg H0 js av θ σ H Q o) : PostG X.K X.mg H0 is av θ σ H Q o := by
  match o, P with
  | some (sd', μ'), P => exact fun σ' θ' H' g R hl hi => P σ' θ' H' g R hl fun i n => hi i fun q => n (h i q)
theorem pgd_cons {tgs : List Expr} {tg : Expr} {is js : List Nat} {t : TgD} {u : TgsD} (h1 : PG X tg (tG X.K X.mg H0 is t)) (h2 : PGs X tgs (tGs X.K X.mg H0 js u))
    (hs : (assignEach (tg :: tgs) X.env).map (·.2) = assign tg X.env :: (assignEach tgs X.env).map (·.2) := by rfl) : PGs X (tg :: tgs) (tGs X.K X.mg H0 (is ++ js) (gConsD t u)) := by
  refine wkGs (pgs_cons h1 h2 hs) fun vs σ H Q ⟨av, θ, sd, μ, ds, R, r, P⟩ => ?_
  cases ds with
  | nil => exact P.elim
  | cons d ds =>
    obtain ⟨x, rr, e, rx, rt⟩ := r
    refine ⟨x, rr, e, av, θ, sd, μ, d, R, rx, ?_⟩
    have P : PostG X.K X.mg H0 (is ++ js) av θ σ H Q ((t sd μ d).bind fun z => u z.1 z.2 ds) := P
    cases h : t sd μ d with
    | none => rw [h] at P; exact P.elim
    | some z =>
      rw [h] at P
      intro σ' θ' H' g R' hl hi
      refine ⟨av, θ', z.1, z.2, ds, R', repL.gr g _ _ rt, ?_⟩
      have P : PostG X.K X.mg H0 (is ++ js) av θ σ H Q (u z.1 z.2 ds) := P
      match h2 : u z.1 z.2 ds, P with
      | some (sd2, μ2), P =>
        exact fun σ2 θ2 H2 g2 R2 hl2 hi2 => P σ2 θ2 H2 (g.trans g2) R2 (hl2.trans hl) fun i n => (hi2 i fun q => n (List.mem_append_right _ q)).trans (hi i fun q => n (List.mem_append_left _ q))
theorem pgd_tup {tgs : List Expr} {k : Nat} {is : List Nat} {u : TgsD} (n : Nat) (hc : X.calm = true) (h : PGs X tgs (tGs X.K X.mg H0 is u)) (hu : ∀ sd μ ds, ds.length ≠ n → u sd μ ds = none) (hn : (assignEach tgs X.env).length = n := by rfl) (hst : (assignEach tgs X.env).findIdx? (·.1) = none := by rfl) :
    PG X (.Tuple tgs k pos) (tG X.K X.mg H0 is (gTupD u)) := by
  refine wkG (pg_tup hc h hn hst) fun v σ H Q ⟨av, θ, sd, μ, d, R, r, P⟩ => ?_
  cases d with
  | tup ds =>
    obtain ⟨a, xs, e, ht, rl⟩ := r
    have P : PostG X.K X.mg H0 is av θ σ H Q (u sd μ ds) := P
    have hlen : ds.length = n := by
      by_cases q : ds.length = n
      · exact q
      · rw [hu sd μ ds q] at P; exact P.elim
    exact ⟨a, xs, e, ht.sq, by rw [repL.length rl]; exact hlen, av, θ, sd, μ, ds, R, rl, P⟩
  | _ => exact P.elim
theorem gNilD_len : ∀ (sd : Sl) (μ : Mem) (ds : List D), ds.length ≠ 0 → gNilD sd μ ds = none := fun sd μ ds h => by
  cases ds with
  | nil => exact absurd rfl h
  | cons d ds => rfl
theorem gConsD_len {t : TgD} {u : TgsD} {n : Nat} (h : ∀ sd μ ds, ds.length ≠ n → u sd μ ds = none) : ∀ (sd : Sl) (μ : Mem) (ds : List D), ds.length ≠ n + 1 → gConsD t u sd μ ds = none := fun sd μ ds hn => by
  cases ds with
  | nil => rfl
  | cons d ds =>
    unfold gConsD
    simp only
    cases t sd μ d with
    | none => rfl
    | some z => exact h _ _ _ fun q => hn (by rw [List.length_cons, q])

/-! ### changing objects -/
theorem RS.setO {av θ : List Addr} {sd : Sl} {μ : Mem} {σ : L2.St} {H : Hp} {K : PySem.W.Frag} {mg : Mg} {n : Nat} {a : Addr} {o : HO} {mo : MO} (R : RS K mg H0 av θ sd μ σ H) (hn : θ[n]? = some a) (h' : repO K mg H0 av θ (upd H a o) mo a) :
    Gr θ θ H (upd H a o) ∧ RS K mg H0 av θ sd (μ.set n mo) σ (upd H a o) := by
  have ha : a ∈ θ := List.mem_of_getElem? hn
  have g : Gr θ θ H (upd H a o) := ⟨List.prefix_refl _, fun b h m => absurd h m, fun b u m e => by rw [upd_ne (fun z => m (by rw [z]; exact ha))]; exact e⟩
  refine ⟨g, R.ex.mut (R.fr a ha), R.fr, R.nd, by rw [List.length_set]; exact R.len, fun k m b h1 h2 => ?_, fun b q => ?_, (R.sls g)⟩
  · by_cases q : k = n
    · subst q
      rw [hn] at h2
      obtain rfl : a = b := Option.some.inj h2
      have hk : k < μ.length := by rw [← R.len]; exact (List.getElem?_eq_some_iff.mp hn).1
      rw [List.getElem?_set_self hk] at h1
      obtain rfl : mo = m := Option.some.inj h1
      exact h'
    · rw [List.getElem?_set_ne (Ne.symm q)] at h1
      refine (R.mem k m b h1 h2).gr g fun u e => ?_
      have ne : b ≠ a := fun z => q (by
        subst z
        obtain ⟨i1, e1⟩ := List.getElem?_eq_some_iff.mp hn
        obtain ⟨i2, e2⟩ := List.getElem?_eq_some_iff.mp h2
        exact (List.getElem_inj R.nd).mp (e2.trans e1.symm))
      rw [upd_ne ne]; exact e
  · obtain ⟨m, u, e, mu⟩ := R.avs b q
    exact ⟨m, u, by rw [upd_ne (fun z => m (by rw [z]; exact ha))]; exact e, mu⟩
/-- a method that changes its object: the value, what is behind -/
def AsksM (X : Cx) (H0 : Hp) (av θ : List Addr) (sd : Sl) (σ : L2.St) (H : Hp) (d : D) (μ' : Mem) (Q : VK) : Prop :=
  ∀ v H' nv, Gr θ θ H H' → RS X.K X.mg H0 (nv ++ av) θ sd μ' σ H' → relD X.K X.mg H0 av θ H H' nv d v → Q v H'
def MuD (X : Cx) (id : String) (g : Mem → D → List D → Option (D × Mem)) : Prop := ∀ H0 : Hp, ∃ r : V → List V → Hp → VK → Prop, MtR X id r ∧
  ∀ (av θ : List Addr) (sd : Sl) (μ : Mem) (σ : L2.St) (H : Hp) (dx : D) (x : V) (ds : List D) (xs : List V) (d : D) (μ' : Mem) (Q : VK), RS X.K X.mg H0 av θ sd μ σ H → rep X.K X.mg H0 av θ H dx x → repL X.K X.mg H0 av θ H ds xs → g μ dx ds = some (d, μ') →
    AsksM X H0 av θ sd σ H d μ' Q → r x xs H Q
/-- xs is a list: what tyV asks -/
def isLst (μ : Mem) : D → Option (List D)
  | .lst ds => some ds
  | .fr ds => some ds
  | .new ds => some ds
  | .ref n => match μ[n]? with
    | some (.lst ds) => some ds
    | _ => none
  | _ => none
/-- a list's method that changes it -/
def eMu (g : Mem → D → List D → Option (D × Mem)) (f : EE) (a : EA) : EE := fun sd μ => bE (f sd μ) fun x μ1 => (isLst μ1 x).bind fun _ => bE (a sd μ1) fun ds μ2 => (g μ2 x ds).map fun z => (.ok z.1, z.2)
theorem lst_at {d : D} {v : V} {ds : List D} (R : RS X.K X.mg H0 av θ sd μ σ H) (r : rep X.K X.mg H0 av θ H d v) (h : isLst μ d = some ds) : ∃ a xs, v = .ref a ∧ H a = some (.lst xs) ∧ repL X.K X.mg H0 av θ H ds xs := by
  cases d with
  | lst es => cases h; obtain ⟨a, xs, e, t, r⟩ := r; exact ⟨a, xs, e, R.ex _ _ t, r⟩
  | fr es => cases h; obtain ⟨a, xs, e, _, _, _, t, r⟩ := r; exact ⟨a, xs, e, t, r⟩
  | new es => cases h; obtain ⟨a, xs, e, _, _, _, t, r⟩ := r; exact ⟨a, xs, e, t, r⟩
  | ref n =>
    obtain ⟨a, e, hn⟩ := r
    have h : (match μ[n]? with
      | some (.lst ds) => some ds
      | _ => none) = some ds := h
    cases hm : μ[n]? with
    | none => rw [hm] at h; cases h
    | some mo =>
      rw [hm] at h
      cases mo with
      | lst es => cases h; obtain ⟨xs, t, r⟩ := R.mem n _ a hm hn; exact ⟨a, xs, e, t, r⟩
      | ins C fs => cases h
  | _ => cases h
theorem lst_ty {d : D} {v : V} {ds : List D} (R : RS X.K X.mg H0 av θ sd μ σ H) (r : rep X.K X.mg H0 av θ H d v) (h : isLst μ d = some ds) : tyV X.K "list" v H := by
  obtain ⟨a, xs, rfl, t, _⟩ := lst_at R r h
  exact .inl ⟨rfl, xs, .inl (.inl t)⟩
theorem askM {o : Option (D × Mem)} {Q : VK} (P : Post X.K X.mg H0 W (relD X.K X.mg H0) av θ sd σ H Q (o.map fun z => (Except.ok z.1, z.2))) : ∃ d μ', o = some (d, μ') ∧ AsksM X H0 av θ sd σ H d μ' Q := by
  cases o with
  | none => exact P.elim
  | some z => exact ⟨z.1, z.2, rfl, fun v H' nv g R r => P v θ H' nv g R r⟩
/-- o.m(e, ..), o.m() of a list that changes -/
theorem pd_mu {o : Expr} {name : Str} {id : String} {apos cpos : Pos} {g : Mem → D → List D → Option (D × Mem)} {ga : EA} (slot : Slot "list" name id) (hty : typeOf (.builtin id) = pure (.type "method_descriptor")) (hm : MuD X id g)
    (ho : PE X o (tE X.K X.mg H0 W f)) (ha : PA X (e :: es) (tA X.K X.mg H0 W ga))
    (hbase : attributeBase o name X.env (eval o X.env) = eval o X.env := by rfl)
    (hfew : ((backTo cpos (starEach (e :: es) X.env)).all (fun x => !x.1) && (backToKw cpos (keywordEach [] X.env)).all (fun x => x.1.isSome)
      && decide ((e :: es).length + ([] : List Keyword).length + (if ([] : List Keyword).isEmpty then 0 else 1) < 30)) = true := by rfl)
    (hline : (apos.endLine == cpos.line) = true := by rfl) (hs : starEach (e :: es) X.env = (false, eval e X.env) :: starEach es X.env := by rfl) (hplain : (backTo cpos (starEach es X.env)).any (·.1) = false := by rfl) :
    PE X (.Call (.Attribute o name apos) (e :: es) [] cpos) (tE X.K X.mg H0 W (eMu g f ga)) := by
  obtain ⟨r, hr, k⟩ := hm H0
  refine wkE (pe_bm PySem.F.plainAttrs_list slot hty hr ho ha hbase hfew hline hs hplain) fun σ H Q ⟨av, θ, sd, μ, R, P⟩ => ⟨av, θ, sd, μ, R, P.bind antiD fun x μ1 v θ1 H1 nv g1 R1 r1 P1 => ?_⟩
  cases hx : isLst μ1 x with
  | none => rw [hx] at P1; exact P1.elim
  | some es =>
    rw [hx] at P1
    refine ⟨lst_ty R1.plain r1.1 hx, av, θ1, sd, μ1, R1.plain, ?_⟩
    have P1 : Post X.K X.mg H0 W (relD X.K X.mg H0) av θ1 sd σ H1 Q (bE (ga sd μ1) fun ds μ2 => (g μ2 x ds).map fun z => (.ok z.1, z.2)) := P1
    refine P1.bind antiD fun ds μ2 vs θ2 H2 nw g2 R2 r2 P2 => ?_
    obtain ⟨d, μ3, hd, q⟩ := askM P2
    exact k av θ2 sd μ2 σ H2 x v ds vs d μ3 Q R2.plain (repG g2 r1.1) r2 hd q
theorem pd_mu0 {o : Expr} {name : Str} {id : String} {apos cpos : Pos} {g : Mem → D → List D → Option (D × Mem)} (slot : Slot "list" name id) (hty : typeOf (.builtin id) = pure (.type "method_descriptor")) (hm : MuD X id g)
    (ho : PE X o (tE X.K X.mg H0 W f)) (hbase : attributeBase o name X.env (eval o X.env) = eval o X.env := by rfl) (hline : (apos.endLine == cpos.line) = true := by rfl) :
    PE X (.Call (.Attribute o name apos) [] [] cpos) (tE X.K X.mg H0 W (eMu g f eNil)) := by
  obtain ⟨r, hr, k⟩ := hm H0
  refine wkE (pe_bm0 PySem.F.plainAttrs_list slot hty hr ho hbase hline) fun σ H Q ⟨av, θ, sd, μ, R, P⟩ => ⟨av, θ, sd, μ, R, P.bind antiD fun x μ1 v θ1 H1 nv g1 R1 r1 P1 => ?_⟩
  cases hx : isLst μ1 x with
  | none => rw [hx] at P1; exact P1.elim
  | some es =>
    rw [hx] at P1
    have P1 : Post X.K X.mg H0 W (relD X.K X.mg H0) av θ1 sd σ H1 Q ((g μ1 x []).map fun z => (.ok z.1, z.2)) := P1
    obtain ⟨d, μ3, hd, q⟩ := askM P1
    exact ⟨lst_ty R1.plain r1.1 hx, k av θ1 sd μ1 σ H1 x v [] [] d μ3 Q R1.plain r1.1 rfl hd q⟩
/-- xs.append(d) -/
def muAppend (μ : Mem) (x : D) (ds : List D) : Option (D × Mem) := match x, ds with
  | .ref n, [d] => match d with
    | .new _ => none
    | d => match μ[n]? with
      | some (.lst es) => if es.length < sizeLine then some (.non, μ.set n (.lst (es ++ [d]))) else none
      | _ => none
  | _, _ => none
theorem repL.snoc {K : PySem.W.Frag} {mg : Mg} {d : D} {v : V} (rd : rep K mg H0 av θ H d v) : ∀ {ds : List D} {xs : List V}, repL K mg H0 av θ H ds xs → repL K mg H0 av θ H (ds ++ [d]) (xs ++ [v])
  | [], xs, h => by
    have h : xs = [] := h
    subst h
    exact ⟨v, [], rfl, rd, rfl⟩
  | e :: ds, _, ⟨x, r, q, h, t⟩ => by
    subst q
    exact ⟨x, r ++ [v], rfl, h, repL.snoc rd t⟩
theorem mu_append : MuD X "list.append" muAppend := fun H0 => by
  refine ⟨_, mt_append, fun av θ sd μ σ H dx x ds xs d μ' Q R rx rl hg q => ?_⟩
  cases dx with
  | ref n =>
    obtain ⟨a, rfl, hn⟩ := rx
    match ds, rl with
    | [y], ⟨v, rr, e1, ry, e2⟩ =>
      have e2 : rr = [] := e2
      subst e2
      subst e1
      have hg : (match μ[n]? with
        | some (.lst es) => if es.length < sizeLine then some (D.non, μ.set n (.lst (es ++ [y]))) else none
        | _ => none) = some (d, μ') := by cases y <;> first | exact hg | cases hg
      cases hm : μ[n]? with
      | none => rw [hm] at hg; cases hg
      | some mo =>
        rw [hm] at hg
        cases mo with
        | ins C fs => cases hg
        | lst es =>
          have hg : (if es.length < sizeLine then some (D.non, μ.set n (MO.lst (es ++ [y]))) else none) = some (d, μ') := hg
          by_cases z : es.length < sizeLine
          · rw [if_pos z] at hg
            cases hg
            obtain ⟨ys, t, rs⟩ := R.mem n _ a hm hn
            refine ⟨a, ys, v, rfl, rfl, t, by rw [repL.length rs]; exact z, ?_⟩
            have ha : a ∈ θ := List.mem_of_getElem? hn
            have g0 : Gr θ θ H (upd H a (.lst (ys ++ [v]))) := ⟨List.prefix_refl _, fun b h m => absurd h m, fun b u m e => by rw [upd_ne (fun z => m (by rw [z]; exact ha))]; exact e⟩
            obtain ⟨g, R'⟩ := R.setO hn (mo := .lst (es ++ [y])) (o := .lst (ys ++ [v])) ⟨_, upd_same, repL.gr g0 _ _ (repL.snoc ry rs)⟩
            exact q .non _ [] g R' ⟨rfl, fun _ e => by cases e⟩
          · rw [if_neg z] at hg; cases hg
    | [], _ => cases hg
    | _ :: _ :: _, _ => cases hg
  | _ => cases hg
end
end DL
set_option Elab.async false
set_option linter.all false
set_option maxRecDepth 100000
/-! DL, part e: loops, comprehensions, calls, defs. -/
namespace DL
open PySem PySem.Spec PyProof.Rows L2

/-! ### what is walked: the items, and what has to stand as it stood -/
abbrev IE := Sl → Mem → R3 (List D × (Mem → Prop))
open Classical in
noncomputable def loopF (chk : Mem → Prop) (t : TgD) (b : SS) : List D → SS
  | [], sd, μ => some (.nx, sd, μ)
  | d :: ds, sd, μ => match t sd μ d with
    | none => none
    | some (sd1, μ1) => match b sd1 μ1 with
      | some (.nx, sd2, μ2) => if chk μ2 then loopF chk t b ds sd2 μ2 else none
      | some (.ct, sd2, μ2) => if chk μ2 then loopF chk t b ds sd2 μ2 else none
      | some (.brk, sd2, μ2) => some (.nx, sd2, μ2)
      | r => r
noncomputable def sFor (it : IE) (t : TgD) (b : SS) : SS := fun sd μ => match it sd μ with
  | none => none
  | some (.error e, μ1) => some (.exc e, sd, μ1)
  | some (.ok (ds, chk), μ1) => loopF chk t b ds sd μ1
/-- the walked thing yields these items -/
def ItOk (K : PySem.W.Frag) (mg : Mg) (H0 : Hp) (av : List Addr) (J : It) (ds : List D) (chk : Mem → Prop) (θ : List Addr) (H : Hp) : Prop :=
  ∀ (i : Nat) (bv θ1 : List Addr) (sd1 : Sl) (μ1 : Mem) (σ1 : L2.St) (H1 : Hp), Gr θ θ1 H H1 → (∀ b ∈ bv, b ∈ av ∨ H b = none) → RS K mg H0 bv θ1 sd1 μ1 σ1 H1 → chk μ1 →
    (∀ d, ds[i]? = some d → J.go i H1 ∧ ∀ x H2, J.yld i H1 x H2 → Exh H1 H2 ∧ rep K mg H0 bv θ1 H2 d x) ∧ (ds.length ≤ i → J.stop i H1)
def PostI (K : PySem.W.Frag) (mg : Mg) (H0 : Hp) (W : WX) (av θ : List Addr) (sd : Sl) (σ : L2.St) (H : Hp) (R : It → Hp → Prop) (o : R3 (List D × (Mem → Prop))) : Prop := match o with
  | none => False
  | some (.error e, μ') => ∀ cls dd θ' H', Gr θ θ' H H' → RS K mg H0 av θ' sd μ' σ H' → repX K mg H0 av θ' H' e cls dd → W cls dd σ H'
  | some (.ok (ds, chk), μ') => ∀ J θ' H', Gr θ θ' H H' → RS K mg H0 av θ' sd μ' σ H' → chk μ' → ItOk K mg H0 av J ds chk θ' H' → R J H'
def tI (K : PySem.W.Frag) (mg : Mg) (H0 : Hp) (W : WX) (f : IE) : TI := fun σ H R => ∃ av θ sd μ, RS K mg H0 av θ sd μ σ H ∧ PostI K mg H0 W av θ sd σ H R (f sd μ)

section
variable {H0 : Hp} {W : WX} {X : Cx} {a b c e : Expr} {es : List Expr} {st : Stmt} {sts body : List Stmt} {pos : Pos} {f : EE} {fs gs : SS} {t : ET} {av θ : List Addr} {sd : Sl} {μ : Mem} {σ : L2.St} {H : Hp}
theorem wkI {tg iter : Expr} {w w' : TI} (h : PI X tg iter w) (k : ∀ σ H R, w' σ H R → w σ H R) : PI X tg iter w' := ⟨fun pins s σ H R I q => h.run pins s σ H R I (k σ H R q)⟩
theorem drop_get {α : Type} {l : List α} {i : Nat} (h : i < l.length) : l.drop i = l[i] :: l.drop (i + 1) := List.drop_eq_getElem_cons h
theorem ps_loop {tg iter : Expr} {fi : IE} {is : List Nat} {g : TgD} (hp : PassesOwn (model X.prog X.w) X.A X.env X.xe) (hc : X.calm = true) (hi : PI X tg iter (tI X.K X.mg H0 W fi)) (hg : PG X tg (tG X.K X.mg H0 is g)) (hb : PSs X body (tS X.K X.mg H0 W fs))
    (hs : ∀ x, foldedSetIterable iter X.env x = pure x := by intro _; rfl) : PS X (.For tg iter body [] pos) (tS X.K X.mg H0 W (sFor fi g fs)) := by
  refine wkS (L2.ps_for hp hc hi hg hb hs) fun E σ H ⟨av, θ, sd, μ, R, P⟩ => ⟨av, θ, sd, μ, R, ?_⟩
  unfold sFor at P
  match h : fi sd μ, P with
  | none, P => exact P
  | some (.error x, μ1), P => exact fun cls dd θ' H' g' R' r => P cls dd σ θ' H' g' R' r
  | some (.ok (ds, chk), μ1), P =>
    intro J θ' H' g' R' hk hJ
    have P : PostS X.K X.mg H0 W av θ' H' E (loopF chk g fs ds sd μ1) := PostS.rebase P g'
    refine ⟨fun i m σi Hi => m = ds.length - i ∧ i ≤ ds.length ∧ ∃ θi sdi μi, Gr θ' θi H' Hi ∧ RS X.K X.mg H0 av θi sdi μi σi Hi ∧ chk μi ∧ PostS X.K X.mg H0 W av θi Hi E (loopF chk g fs (ds.drop i) sdi μi),
      ⟨ds.length, by simp, Nat.zero_le _, θ', sd, μ1, Gr.refl, R', hk, by rw [List.drop_zero]; exact P⟩, ?_⟩
    rintro i m σi Hi ⟨rfl, hle, θi, sdi, μi, gi, Ri, hki, Pi⟩
    obtain ⟨hgo, hst⟩ := hJ i av θi sdi μi σi Hi gi (fun _ h => .inl h) Ri hki
    by_cases hlt : i < ds.length
    · obtain ⟨go, yl⟩ := hgo ds[i] (List.getElem?_eq_getElem hlt)
      rw [drop_get hlt] at Pi
      refine .inr ⟨go, fun σ2 H2 => ∃ θ2 sd2 μ2, Gr θ' θ2 H' H2 ∧ RS X.K X.mg H0 av θ2 sd2 μ2 σ2 H2 ∧ chk μ2 ∧ PostS X.K X.mg H0 W av θ2 H2 E (loopF chk g fs (ds.drop (i + 1)) sd2 μ2), fun σ2 H2 n => ⟨ds.length - (i + 1), by omega, rfl, hlt, n⟩, fun x H2 hy => ?_⟩
      obtain ⟨ex, rx⟩ := yl x H2 hy
      refine ⟨av, θi, sdi, μi, ds[i], Ri.grow ex, rx, ?_⟩
      cases hz : g sdi μi ds[i] with
      | none => unfold loopF at Pi; rw [hz] at Pi; exact Pi.elim
      | some z =>
        obtain ⟨sd1, μ1'⟩ := z
        have g2 : Gr θ' θi H' H2 := gi.trans (Gr.of_ex ex)
        intro σ3 θ3 H3 g3 R3 _ _
        refine ⟨av, θ3, sd1, μ1', R3, ?_⟩
        unfold loopF at Pi
        rw [hz] at Pi
        simp only at Pi
        have gg : Gr θi θ3 Hi H3 := (Gr.of_ex ex).trans g3
        match hb2 : fs sd1 μ1', Pi with
        | none, Pi => exact Pi
        | some (.nx, sd4, μ4), Pi =>
          simp only at Pi
          by_cases hc4 : chk μ4
          · rw [if_pos hc4] at Pi
            exact fun σ5 θ5 H5 g5 R5 => ⟨θ5, sd4, μ4, g2.trans (g3.trans g5), R5, hc4, PostS.rebase Pi (gg.trans g5)⟩
          · rw [if_neg hc4] at Pi; exact Pi.elim
        | some (.ct, sd4, μ4), Pi =>
          simp only at Pi
          by_cases hc4 : chk μ4
          · rw [if_pos hc4] at Pi
            exact fun σ5 θ5 H5 g5 R5 => ⟨θ5, sd4, μ4, g2.trans (g3.trans g5), R5, hc4, PostS.rebase Pi (gg.trans g5)⟩
          · rw [if_neg hc4] at Pi; exact Pi.elim
        | some (.brk, sd4, μ4), Pi => exact PostS.rebase Pi gg
        | some (.ret d, sd4, μ4), Pi => exact Pi
        | some (.exc x, sd4, μ4), Pi => exact PostS.rebase Pi gg
    · have : i = ds.length := by omega
      subst this
      rw [List.drop_length] at Pi
      exact .inl ⟨hst (Nat.le_refl _), Pi σi θi Hi Gr.refl Ri⟩

/-! ### list comprehensions -/
def wipeD (sd : Sl) : List Nat → Sl
  | [] => sd
  | v :: vs => (wipeD sd vs).set v none
theorem RS.wipe {K : PySem.W.Frag} {mg : Mg} (R : RS K mg H0 av θ sd μ σ H) : ∀ vs : List Nat, RS K mg H0 av θ (wipeD sd vs) μ (L2.wipe σ vs) H
  | [] => R
  | v :: vs => (R.wipe vs).unset v
theorem wipe_same {σ' : L2.St} : ∀ {vs : List Nat}, σ'.length = σ.length → (∀ i, i ∉ vs → σ'[i]? = σ[i]?) → L2.wipe σ' vs = L2.wipe σ vs := fun {vs} hl h => by
  apply List.ext_getElem?
  intro i
  have look : ∀ (ρ : L2.St) (ws : List Nat), (L2.wipe ρ ws)[i]? = if i ∈ ws then (ρ[i]?).map fun _ => none else ρ[i]? := fun ρ ws => by
    induction ws with
    | nil => simp [L2.wipe]
    | cons w ws ih =>
      unfold L2.wipe
      by_cases e : i = w
      · subst e
        rw [if_pos List.mem_cons_self]
        by_cases hi : i < ρ.length
        · rw [List.getElem?_set_self (by rw [wipe_length]; exact hi), List.getElem?_eq_getElem hi]; rfl
        · rw [List.getElem?_eq_none (by rw [List.length_set, wipe_length]; omega), List.getElem?_eq_none (by omega)]; rfl
      · rw [List.getElem?_set_ne (Ne.symm e), ih]
        by_cases m : i ∈ ws
        · rw [if_pos m, if_pos (List.mem_cons_of_mem _ m)]
        · rw [if_neg m, if_neg (fun q => (List.mem_cons.mp q).elim e m)]
  rw [look, look]
  by_cases m : i ∈ vs
  · rw [if_pos m, if_pos m]
    by_cases hi : i < σ.length
    · rw [List.getElem?_eq_getElem hi, List.getElem?_eq_getElem (by omega)]; rfl
    · rw [List.getElem?_eq_none (by omega), List.getElem?_eq_none (by omega)]
  · rw [if_neg m, if_neg m]; exact h i m
theorem wipe_wipe (vs : List Nat) : L2.wipe (L2.wipe σ vs) vs = L2.wipe σ vs := by
  refine wipe_same (wipe_length _ _) fun i h => ?_
  have : ∀ (ws : List Nat), i ∉ ws → (L2.wipe σ ws)[i]? = σ[i]? := fun ws hw => by
    induction ws with
    | nil => rfl
    | cons w ws ih =>
      unfold L2.wipe
      rw [List.getElem?_set_ne (fun q => hw (by rw [q]; exact List.mem_cons_self)), ih fun q => hw (List.mem_cons_of_mem _ q)]
  exact this vs h
def notNew : D → Bool
  | .new _ => false
  | _ => true
open Classical in
noncomputable def lcF (chk : Mem → Prop) (t : TgD) (q : ET) (f : EE) (sd : Sl) : List D → Mem → R3 (List D)
  | [], μ => some (.ok [], μ)
  | d :: ds, μ => match t sd μ d with
    | none => none
    | some (sd1, μ1) => match q sd1 μ1 with
      | some (.ok true, μ2) => match f sd1 μ2 with
        | some (.ok x, μ3) => if notNew x = true ∧ chk μ3 then bE (lcF chk t q f sd ds μ3) fun xs μ4 => some (.ok (x :: xs), μ4) else none
        | _ => none
      | some (.ok false, μ2) => if chk μ2 then lcF chk t q f sd ds μ2 else none
      | _ => none
theorem lcF_ok {chk : Mem → Prop} {t : TgD} {q : ET} {f : EE} {sd : Sl} : ∀ {ds : List D} {μ : Mem} {e : Exn} {μ' : Mem}, lcF chk t q f sd ds μ ≠ some (.error e, μ') := by
  intro ds
  induction ds with
  | nil => intro μ e μ' h; simp [lcF] at h
  | cons d ds ih =>
    intro μ e μ' h
    unfold lcF at h
    split at h
    · cases h
    · split at h
      · split at h
        · split at h
          · rename_i x μ3 _ _
            cases z : lcF chk t q f sd ds μ3 with
            | none => rw [z] at h; cases h
            | some w =>
              obtain ⟨r, m⟩ := w
              cases r with
              | error e' => exact ih z
              | ok xs => rw [z] at h; cases h
          · cases h
        · cases h
      · split at h
        · exact ih h
        · cases h
      · cases h
noncomputable def eLc (it : IE) (t : TgD) (q : ET) (f : EE) (vs : List Nat) : EE := fun sd μ => match it sd μ with
  | none => none
  | some (.error e, μ1) => some (.error e, μ1)
  | some (.ok (ds, chk), μ1) => if ds.length ≤ sizeLine then bE (lcF chk t q f (wipeD sd vs) ds μ1) fun xs μ2 => some (.ok (.new xs), μ2) else none
def qYes : ET := fun _ μ => some (.ok true, μ)
theorem pts_none : PTs X [] (tT X.K X.mg H0 W qYes) := ⟨fun pins s σ H Q I ⟨av, θ, sd, μ, R, P⟩ => pts_nil.run pins s σ H Q I (P true θ H [] Gr.refl R rfl)⟩
theorem pts_1 {c : Expr} {q : ET} (h : PT X c (tT X.K X.mg H0 W q)) : PTs X [c] (tT X.K X.mg H0 W q) := pts_one h
theorem lc_read {fi : IE} {is vs : List Nat} {g : TgD} {q : ET} {Q : VK} (his : ∀ i ∈ is, i ∈ vs) (hh : tE X.K X.mg H0 W (eLc fi g q f vs) σ H Q) :
    tLc (tI X.K X.mg H0 W fi) (tG X.K X.mg H0 is g) (tT X.K X.mg H0 WF q) (tE X.K X.mg H0 WF f) vs σ H Q := by
  obtain ⟨av, θ, sd, μ, R, P⟩ := hh
  refine ⟨av, θ, sd, μ, R, ?_⟩
  unfold eLc at P
  match h : fi sd μ, P with
  | none, P => exact P
  | some (.error x, μ1), P => exact fun cls dd θ' H' g' R' r => P cls dd θ' H' g' R' r
  | some (.ok (ds, chk), μ1), P =>
    simp only at P
    by_cases hz : ds.length ≤ sizeLine
    case neg => rw [if_neg hz] at P; exact P.elim
    rw [if_pos hz] at P
    intro J θ1 H1 g1 R1 hk hJ D hD
    cases hl : lcF chk g q f (wipeD sd vs) ds μ1 with
    | none => rw [hl] at P; exact P.elim
    | some w =>
      obtain ⟨rs, μf⟩ := w
      cases rs with
      | error e' => exact absurd hl lcF_ok
      | ok xs =>
        rw [hl] at P
        have e1 : Exh H1 (upd H1 D (.lst [])) := Exh.new hD
        have h0 : H0 D = none := R1.h0 hD
        refine ⟨fun i m Hi => m = ds.length - i ∧ i ≤ ds.length ∧ ∃ θi μi accd accv, Gr θ1 θi H1 Hi ∧ RS X.K X.mg H0 (D :: av) θi (wipeD sd vs) μi (L2.wipe σ vs) Hi ∧ chk μi ∧ Hi D = some (.lst accv) ∧ repL X.K X.mg H0 (D :: av) θi Hi accd accv ∧ accd.length ≤ i ∧
            ∃ rest, lcF chk g q f (wipeD sd vs) (ds.drop i) μi = some (.ok rest, μf) ∧ xs = accd ++ rest,
          ⟨ds.length, by simp, Nat.zero_le _, θ1, μ1, [], [], Gr.of_ex e1, (R1.push e1 hD upd_same trivial).wipe vs, hk, upd_same, rfl, Nat.zero_le _, xs, by rw [List.drop_zero]; exact hl, rfl⟩, ?_⟩
        rintro i m Hi ⟨rfl, hle, θi, μi, accd, accv, gi, Ri, hki, hDi, ra, hal, rest, hrest, exs⟩
        obtain ⟨hgo, hst⟩ := hJ i (D :: av) θi _ μi _ Hi gi (fun b h => (List.mem_cons.mp h).elim (fun e => .inr (by rw [e]; exact hD)) .inl) Ri hki
        by_cases hlt : i < ds.length
        · obtain ⟨go, yl⟩ := hgo ds[i] (List.getElem?_eq_getElem hlt)
          rw [drop_get hlt] at hrest
          refine .inr ⟨go, fun H2 => ∃ θ2 μ2 accd accv, Gr θ1 θ2 H1 H2 ∧ RS X.K X.mg H0 (D :: av) θ2 (wipeD sd vs) μ2 (L2.wipe σ vs) H2 ∧ chk μ2 ∧ H2 D = some (.lst accv) ∧ repL X.K X.mg H0 (D :: av) θ2 H2 accd accv ∧ accd.length ≤ i + 1 ∧
            ∃ rest, lcF chk g q f (wipeD sd vs) (ds.drop (i + 1)) μ2 = some (.ok rest, μf) ∧ xs = accd ++ rest, fun H2 n => ⟨ds.length - (i + 1), by omega, rfl, hlt, n⟩, fun x H2 hy => ?_⟩
          obtain ⟨ex, rx⟩ := yl x H2 hy
          have DDi : D ∈ D :: av := List.mem_cons_self
          -- the target
          unfold lcF at hrest
          cases hgz : g (wipeD sd vs) μi ds[i] with
          | none => rw [hgz] at hrest; cases hrest
          | some z =>
            obtain ⟨sd1, μ1'⟩ := z
            rw [hgz] at hrest
            simp only at hrest
            refine ⟨D :: av, θi, _, μi, ds[i], Ri.grow ex, rx, ?_⟩
            rw [hgz]
            intro σ3 θ3 H3 g3 R3 hl3 ho3
            have hw3 : L2.wipe σ3 vs = L2.wipe σ vs := (wipe_same hl3 fun j hj => ho3 j fun q => hj (his j q)).trans (wipe_wipe vs)
            refine ⟨hw3, D :: av, θ3, sd1, μ1', R3, ?_⟩
            have gi3 : Gr θi θ3 Hi H3 := (Gr.of_ex ex).trans g3
            -- the test
            cases hq : q sd1 μ1' with
            | none => rw [hq] at hrest; cases hrest
            | some w =>
              obtain ⟨rb, μ2⟩ := w
              cases rb with
              | error e' => rw [hq] at hrest; cases hrest
              | ok b =>
                rw [hq] at hrest
                intro y θ4 H4 nv g4 R4 ry
                have ry : y = b := ry
                subst ry
                have R4 := R4.plain
                have gi4 : Gr θi θ4 Hi H4 := gi3.trans g4
                have hD4 : H4 D = some (.lst accv) := gi4.keep D _ (Ri.avs D DDi).1 hDi
                have back : ∀ {θ5 H5 μ5}, Gr θi θ5 Hi H5 → RS X.K X.mg H0 (D :: av) θ5 sd1 μ5 σ3 H5 → RS X.K X.mg H0 (D :: av) θ5 (wipeD sd vs) μ5 (L2.wipe σ vs) H5 := fun g5 R5 => R5.slots (Ri.sls g5)
                cases y with
                | false =>
                  simp only at hrest
                  by_cases hc : chk μ2
                  · rw [if_pos hc] at hrest
                    exact ⟨θ4, μ2, accd, accv, gi.trans gi4, back gi4 R4, hc, hD4, repL.gr gi4 _ _ ra, Nat.le_succ_of_le hal, rest, hrest, exs⟩
                  · rw [if_neg hc] at hrest; cases hrest
                | true =>
                  simp only at hrest
                  refine ⟨D :: av, θ4, sd1, μ2, R4, ?_⟩
                  cases hf : f sd1 μ2 with
                  | none => rw [hf] at hrest; cases hrest
                  | some w =>
                    obtain ⟨rx5, μ5⟩ := w
                    cases rx5 with
                    | error e' => rw [hf] at hrest; cases hrest
                    | ok x5 =>
                      rw [hf] at hrest
                      simp only at hrest
                      by_cases hc : notNew x5 = true ∧ chk μ5
                      case neg => rw [if_neg hc] at hrest; cases hrest
                      rw [if_pos hc] at hrest
                      intro v5 θ5 H5 nv5 g5 R5 r5
                      have R5 := R5.plain
                      have gi5 : Gr θi θ5 Hi H5 := gi4.trans g5
                      have hD5 : H5 D = some (.lst accv) := gi5.keep D _ (Ri.avs D DDi).1 hDi
                      refine ⟨accv, hD5, ?_, ?_⟩
                      · rw [repL.length ra]; omega
                      · cases hr : lcF chk g q f (wipeD sd vs) (ds.drop (i + 1)) μ5 with
                        | none => rw [hr] at hrest; cases hrest
                        | some w6 =>
                          obtain ⟨rs6, μ6⟩ := w6
                          cases rs6 with
                          | error e' => exact absurd hr lcF_ok
                          | ok xs6 =>
                            rw [hr] at hrest
                            cases hrest
                            have gu : Gr θ1 θ5 H1 (upd H5 D (.lst (accv ++ [v5]))) := ⟨(gi.trans gi5).pre, (gi.trans gi5).nw, fun a o n hh => by
                              rw [upd_ne (fun z => by rw [z, hD] at hh; cases hh)]; exact (gi.trans gi5).keep a o n hh⟩
                            have R6 := (back gi5 R5).updAv (o := .lst (accv ++ [v5])) DDi h0 trivial
                            have ra6 : repL X.K X.mg H0 (D :: av) θ5 (upd H5 D (.lst (accv ++ [v5]))) (accd ++ [x5]) (accv ++ [v5]) :=
                              repL.tr (fun _ _ h => h) (goes_upd DDi) _ _ (repL.snoc r5.1 (repL.gr gi5 _ _ ra))
                            exact ⟨θ5, μ5, accd ++ [x5], accv ++ [v5], gu, R6, hc.2, upd_same, ra6, by rw [List.length_append]; simp; exact hal, xs6, hr, by rw [exs]; simp⟩
        · have : i = ds.length := by omega
          subst this
          rw [List.drop_length] at hrest
          simp only [lcF] at hrest
          cases hrest
          refine .inl ⟨hst (Nat.le_refl _), ?_⟩
          have ge : Gr θ θi H Hi := g1.trans gi
          have hDH : H D = none := R1.back g1 hD
          have Rf : RS X.K X.mg H0 (D :: av) θi sd μf σ Hi := Ri.slots ⟨R.sl.1, fun j d h => by
            obtain ⟨v, hv, r⟩ := R.sl.2 j d h
            exact ⟨v, hv, rep.push ge hDH d v r⟩⟩
          rw [List.append_nil] at exs
          subst exs
          exact P (.ref D) θi Hi [D] ge Rf ⟨⟨D, accv, rfl, (Ri.avs D List.mem_cons_self).1, R1.notav hD, h0, hDi, repL.few (fun b h => List.mem_cons_of_mem _ h) _ _ ra⟩, fun ds' e => by
            cases e
            exact ⟨D, accv, rfl, rfl, hDH, hDi, ra⟩⟩
theorem pd_lc {elt tg iter : Expr} {ifs : List Expr} {scope : Scope} {own : List (Str × Nat)} {fi : IE} {is : List Nat} {g : TgD} {q : ET} (hc : X.calm = true) (hN : X.N.Nodup) (hi : PI X tg iter (tI X.K X.mg H0 W fi)) (ok : BlkOk X.N X.env.scope scope own)
    (hg : ∀ (s : Shared) (H : Hp) (C : Addr) (cl : List (Str × Addr)) (fp : List Addr), PG (X.blk s H scope (compEnvC scope cl C X.env) fp) tg (tG X.K X.mg H0 is g)) (his : ∀ i ∈ is, i ∈ own.map (·.2))
    (ht : ∀ (s : Shared) (H : Hp) (C : Addr) (cl : List (Str × Addr)) (fp : List Addr), PTs (X.blk s H scope (compEnvC scope cl C X.env) fp) ifs (tT X.K X.mg H0 WF q))
    (he : ∀ (s : Shared) (H : Hp) (C : Addr) (cl : List (Str × Addr)) (fp : List Addr), PE (X.blk s H scope (compEnvC scope cl C X.env) fp) elt (tE X.K X.mg H0 WF f)) (hs : ∀ x, foldedSetIterable iter X.env x = pure x := by intro _; rfl) :
    PE X (.ListComp elt [⟨tg, iter, ifs, 0⟩] scope pos) (tE X.K X.mg H0 W (eLc fi g q f (own.map (·.2)))) :=
  wkE (pe_lc hc hN hi ok hg ht he hs) fun σ H Q h => lc_read his h
end
end DL
set_option Elab.async false
set_option linter.all false
set_option maxRecDepth 100000
/-! DL, part f: defs and their calls. -/
namespace DL
open PySem PySem.Spec PyProof.Rows L2

/-! ### arguments -/
mutual
def okA : D → Bool
  | .non | .bl _ | .int _ | .str _ | .glob _ | .ty _ => true
  | .tup ds | .lst ds | .lck ds => okAL ds
  | .obj _ fs | .bor _ fs => okAF fs
  | _ => false
def okAL : List D → Bool
  | [] => true
  | d :: ds => okA d && okAL ds
def okAF : List (Str × D) → Bool
  | [] => true
  | (_, d) :: ds => okA d && okAF ds
end
def argD (μ : Mem) (d : D) : Option D := match d with
  | .new ds => if okAL ds then some (.lst ds) else none
  | .fr ds => if okAL ds then some (.lst ds) else none
  | .ref n => match μ[n]? with
    | some (.lst ds) => if okAL ds then some (.lst ds) else none
    | some (.ins C fs) => if okAF fs then some (.bor C fs) else none
    | none => none
  | d => if okA d then some d else none
def argsD (μ : Mem) : List D → Option (List D)
  | [] => some []
  | d :: ds => (argD μ d).bind fun x => (argsD μ ds).map fun xs => x :: xs

section
variable {K : PySem.W.Frag} {mg : Mg} {H0 H H1 H' : Hp} {av θ : List Addr} {sd : Sl} {μ : Mem} {σ : L2.St}
theorem TupAt.arg {a : Addr} {xs : List V} (h : TupAt K av θ H a xs) : TupAt K (θ ++ av) [] H a xs := by
  rcases h with ⟨n, m, h⟩ | h
  · exact .inl ⟨by simp, fun q => (List.mem_append.mp q).elim n m, h⟩
  · exact .inr h
theorem SqL.exh {a : Addr} {xs : List V} (e : Exh H0 H) (h : SqL K H0 a xs) : SqL K H a xs := by
  rcases h with h | h
  · exact .inl (e.rd h)
  · exact .inr h
mutual
theorem rep.arg (e : Exh H0 H) : ∀ (d : D) (v : V), okA d = true → rep K mg H0 av θ H d v → rep K mg H (θ ++ av) [] H d v
  | .non, _, _, h => h
  | .bl _, _, _, h => h
  | .int _, _, _, h => h
  | .str _, _, _, h => h
  | .glob _, _, _, h => h
  | .ty _, _, _, h => h
  | .tup ds, _, p, ⟨a, xs, q, t, r⟩ => ⟨a, xs, q, t.arg, repL.arg e ds xs (by simpa [okA] using p) r⟩
  | .lst ds, _, p, ⟨a, xs, q, t, r⟩ => ⟨a, xs, q, e _ _ t, repL.arg e ds xs (by simpa [okA] using p) r⟩
  | .lck ds, _, p, ⟨a, xs, q, t, r⟩ => ⟨a, xs, q, SqL.exh e t, repL.arg e ds xs (by simpa [okA] using p) r⟩
  | .obj _ fs, _, p, ⟨a, c, dx, vs, q, n, m, hc, t, r⟩ => ⟨a, c, dx, vs, q, by simp, fun z => (List.mem_append.mp z).elim n m, hc, t, repF.arg e fs vs (by simpa [okA] using p) r⟩
  | .bor _ fs, _, p, ⟨a, c, dx, vs, q, hc, t, r⟩ => ⟨a, c, dx, vs, q, hc, e _ _ t, repF.arg e fs vs (by simpa [okA] using p) r⟩
  | .fr _, _, p, _ => by simp [okA] at p
  | .new _, _, p, _ => by simp [okA] at p
  | .ref _, _, p, _ => by simp [okA] at p
  | .exh _ _ _ _, _, p, _ => by simp [okA] at p
theorem repL.arg (e : Exh H0 H) : ∀ (ds : List D) (xs : List V), okAL ds = true → repL K mg H0 av θ H ds xs → repL K mg H (θ ++ av) [] H ds xs
  | [], _, _, h => h
  | d :: ds, _, p, ⟨x, r, q, h, t⟩ => by
    simp only [okAL, Bool.and_eq_true] at p
    exact ⟨x, r, q, rep.arg e d x p.1 h, repL.arg e ds r p.2 t⟩
theorem repF.arg (e : Exh H0 H) : ∀ (ds : List (Str × D)) (xs : List (Str × V)), okAF ds = true → repF K mg H0 av θ H ds xs → repF K mg H (θ ++ av) [] H ds xs
  | [], _, _, h => h
  | (_, d) :: ds, _, p, ⟨x, r, q, h, t⟩ => by
    simp only [okAF, Bool.and_eq_true] at p
    exact ⟨x, r, q, rep.arg e d x p.1 h, repF.arg e ds r p.2 t⟩
end
theorem arg_ok {d d' : D} {v : V} (R : RS K mg H0 av θ sd μ σ H) (r : rep K mg H0 av θ H d v) (h : argD μ d = some d') : rep K mg H (θ ++ av) [] H d' v := by
  unfold argD at h
  split at h
  · split at h
    · rename_i p
      cases h
      obtain ⟨a, xs, e, n, m, f, t, r⟩ := r
      exact ⟨a, xs, e, t, repL.arg R.ex _ _ p r⟩
    · cases h
  · split at h
    · rename_i p
      cases h
      obtain ⟨a, xs, e, n, m, f, t, r⟩ := r
      exact ⟨a, xs, e, t, repL.arg R.ex _ _ p r⟩
    · cases h
  · obtain ⟨a, rfl, hn⟩ := r
    split at h
    · rename_i hm
      split at h
      · rename_i p
        cases h
        obtain ⟨xs, t, r⟩ := R.mem _ _ a hm hn
        exact ⟨a, xs, rfl, t, repL.arg R.ex _ _ p r⟩
      · cases h
    · rename_i hm
      split at h
      · rename_i p
        cases h
        obtain ⟨c, dx, vs, hc, t, r⟩ := R.mem _ _ a hm hn
        exact ⟨a, c, dx, vs, rfl, hc, t, repF.arg R.ex _ _ p r⟩
      · cases h
    · cases h
  · split at h
    · rename_i p
      cases h
      exact rep.arg R.ex _ _ p r
    · cases h
theorem args_ok (R : RS K mg H0 av θ sd μ σ H) : ∀ {ds ds' : List D} {vs : List V}, repL K mg H0 av θ H ds vs → argsD μ ds = some ds' → repL K mg H (θ ++ av) [] H ds' vs
  | [], _, _, r, h => by cases h; exact r
  | d :: ds, _, _, ⟨x, rr, e, rx, rt⟩, h => by
    unfold argsD at h
    cases h1 : argD μ d with
    | none => rw [h1] at h; cases h
    | some d1 =>
      rw [h1] at h
      cases h2 : argsD μ ds with
      | none => rw [h2] at h; cases h
      | some ds1 =>
        rw [h2] at h
        cases h
        exact ⟨x, rr, e, arg_ok R rx h1, args_ok R rt h2⟩
theorem argsD_length {μ : Mem} : ∀ {ds ds' : List D}, argsD μ ds = some ds' → ds'.length = ds.length
  | [], _, h => by cases h; rfl
  | d :: ds, _, h => by
    unfold argsD at h
    cases h1 : argD μ d with
    | none => rw [h1] at h; cases h
    | some d1 =>
      rw [h1] at h
      cases h2 : argsD μ ds with
      | none => rw [h2] at h; cases h
      | some ds1 =>
        rw [h2] at h
        cases h
        rw [List.length_cons, List.length_cons, argsD_length h2]

/-! ### what comes back -/
theorem TupAt.back {a : Addr} {xs : List V} (h : TupAt K (θ ++ av) [] H a xs) : TupAt K av θ H a xs := by
  rcases h with ⟨n, m, h⟩ | h
  · exact .inl ⟨fun q => m (List.mem_append_left _ q), fun q => m (List.mem_append_right _ q), h⟩
  · exact .inr h
mutual
theorem rep.ret (f : ∀ a, H1 a = none → H0 a = none) : ∀ (d : D) (v : V), plain d = true → rep K mg H1 (θ ++ av) [] H d v → rep K mg H0 av θ H d v
  | .non, _, _, h => h
  | .bl _, _, _, h => h
  | .int _, _, _, h => h
  | .str _, _, _, h => h
  | .glob _, _, _, h => h
  | .ty _, _, _, h => h
  | .tup ds, _, p, ⟨a, xs, q, t, r⟩ => ⟨a, xs, q, t.back, repL.ret f ds xs (by simpa [plain] using p) r⟩
  | .fr ds, _, p, ⟨a, xs, q, n, m, z, t, r⟩ => ⟨a, xs, q, fun z => m (List.mem_append_left _ z), fun z => m (List.mem_append_right _ z), f _ z, t, repL.ret f ds xs (by simpa [plain] using p) r⟩
  | .obj _ fs, _, p, ⟨a, c, dx, vs, q, n, m, hc, t, r⟩ => ⟨a, c, dx, vs, q, fun z => m (List.mem_append_left _ z), fun z => m (List.mem_append_right _ z), hc, t, repF.ret f fs vs (by simpa [plain] using p) r⟩
  | .lst _, _, p, _ => by simp [plain] at p
  | .lck _, _, p, _ => by simp [plain] at p
  | .new _, _, p, _ => by simp [plain] at p
  | .ref _, _, p, _ => by simp [plain] at p
  | .bor _ _, _, p, _ => by simp [plain] at p
  | .exh _ _ _ _, _, p, _ => by simp [plain] at p
theorem repL.ret (f : ∀ a, H1 a = none → H0 a = none) : ∀ (ds : List D) (xs : List V), plainL ds = true → repL K mg H1 (θ ++ av) [] H ds xs → repL K mg H0 av θ H ds xs
  | [], _, _, h => h
  | d :: ds, _, p, ⟨x, r, q, h, t⟩ => by
    simp only [plainL, Bool.and_eq_true] at p
    exact ⟨x, r, q, rep.ret f d x p.1 h, repL.ret f ds r p.2 t⟩
theorem repF.ret (f : ∀ a, H1 a = none → H0 a = none) : ∀ (ds : List (Str × D)) (xs : List (Str × V)), plainF ds = true → repF K mg H1 (θ ++ av) [] H ds xs → repF K mg H0 av θ H ds xs
  | [], _, _, h => h
  | (_, d) :: ds, _, p, ⟨x, r, q, h, t⟩ => by
    simp only [plainF, Bool.and_eq_true] at p
    exact ⟨x, r, q, rep.ret f d x p.1 h, repF.ret f ds r p.2 t⟩
end
/-- a call's answer, in the caller's hands -/
theorem ret_ok {d : D} {v : V} (R : RS K mg H0 av θ sd μ σ H1) (e : Exh H1 H) (r : repR K mg H1 (θ ++ av) H d v) : ∃ nv, RS K mg H0 (nv ++ av) θ sd μ σ H ∧ relD K mg H0 av θ H1 H nv d v := by
  obtain ⟨ok, r, rn⟩ := r
  have back : ∀ a, H1 a = none → H0 a = none := fun a h => R.ex.back h
  by_cases hn : ∃ ds, d = .new ds
  · obtain ⟨ds, rfl⟩ := hn
    obtain ⟨p, xs, rfl, hp, rl⟩ := rn ds rfl
    obtain ⟨a, _, ea, n, m, f, t, _⟩ := r
    cases ea
    have rl2 : repL K mg H0 (p :: av) θ H ds xs := repL.ret (θ := θ) (av := p :: av) back _ _ ok (repL.few (av := p :: (θ ++ av)) (fun b hb => by
      rcases List.mem_append.mp hb with q | q
      · exact List.mem_cons_of_mem _ (List.mem_append_left _ q)
      · rcases List.mem_cons.mp q with q | q
        · rw [q]; exact List.mem_cons_self
        · exact List.mem_cons_of_mem _ (List.mem_append_right _ q)) _ _ rl)
    exact ⟨[p], R.push e f hp trivial, ⟨p, xs, rfl, fun z => m (List.mem_append_left _ z), fun z => m (List.mem_append_right _ z), back _ f, hp, repL.few (fun b hb => List.mem_cons_of_mem _ hb) _ _ rl2⟩,
      fun _ e => by cases e; exact ⟨p, xs, rfl, rfl, f, hp, rl2⟩⟩
  · have hp : plain d = true := by
      cases d <;> first | exact ok | exact absurd ⟨_, rfl⟩ hn
    exact ⟨[], R.grow e, rep.ret back _ _ hp r, fun ds e => absurd ⟨ds, e⟩ hn⟩
theorem retX_ok {e : Exn} {cls : Value} {dd : Option Addr} (R : RS K mg H0 av θ sd μ σ H1) (r : repX K mg H1 (θ ++ av) [] H e cls dd) : repX K mg H0 av θ H e cls dd := by
  rcases r with ⟨c, d, vs, h1, h2, h3, n, m, h4, p, r⟩ | r
  · exact .inl ⟨c, d, vs, h1, h2, h3, fun z => m (List.mem_append_left _ z), fun z => m (List.mem_append_right _ z), h4, p, repF.ret (fun a h => R.ex.back h) _ _ p r⟩
  · exact .inr r
end

/-! ### promises -/
abbrev Mir := List D → Option (Except Exn D)
def spD (K : PySem.W.Frag) (mg : Mg) (np : Nat) (m : Mir) : Sp := fun vs H Q E => ∃ av ds, (∀ a ∈ av, ∃ o, H a = some o ∧ Mut (some o)) ∧ repL K mg H av [] H ds vs ∧ ds.length = np ∧ match m ds with
  | none => False
  | some (.ok d) => ∀ v H', Exh H H' → repR K mg H av H' d v → Q v H'
  | some (.error e) => ∀ cls dd H', Exh H H' → repX K mg H av [] H' e cls dd → E cls dd H'
/-- a def by its body: n slots -/
def runF (n : Nat) (body : SS) : Mir := fun ds => match body (ds.map some ++ List.replicate (n - ds.length) none) [] with
  | some (.ret d, _, _) => some (.ok d)
  | some (.nx, _, _) => some (.ok .non)
  | some (.exc e, _, _) => some (.error e)
  | _ => none
/-- a def that stands, with its promise -/
def FnD (P : Program) (w : World) (K : PySem.W.Frag) (mg : Mg) (base : Heap) (x : Str) (k np : Nat) (m : Mir) : Prop :=
  ∃ f fd ps, mg x = some (.ref f) ∧ PySem.W.keepIn K (.ref f) = true ∧ Binds K fd ps [] ∧ ps.length = np ∧ FnOk P w K mg base (L2.CX P w) k f fd ps (spD K mg np m)
theorem FnD.mono {P : Program} {w : World} {K : PySem.W.Frag} {mg : Mg} {base : Heap} {x : Str} {k j np : Nat} {m : Mir} (h : FnD P w K mg base x k np m) (q : k ≤ j) : FnD P w K mg base x j np m :=
  let ⟨f, fd, ps, a, b, c, d, e⟩ := h
  ⟨f, fd, ps, a, b, c, d, e.mono q⟩
section
variable {P : Program} {w : World} {K : PySem.W.Frag} {mg : Mg} {base : Heap}
/-- THE RULE for a def -/
theorem def_ok {x qual : Str} {st : Stmt} {f : Addr} {fd : FuncData} {N ps : List Str} {k : Nat} {body : SS} (F : Fun K x qual st f fd) (S : FnScope N ps (defScope st))
    (hbody : ∀ (cdv : Value) (A : Around) (outer : List Env) (s : Shared) (H : Hp) (E : XK), Room k (A.deeper (envOfC qual (defScope st) s.heap.objs.size f cdv)) →
      PSs (cxOf (L2.CX P w) P w K mg base N qual (defScope st) f cdv A outer s H E) (defBody st) (tS K mg H (fun cls d _ H' => E cls d H') body)) :
    FnOk P w K mg base (L2.CX P w) (k + 1) f fd ps (spD K mg ps.length (runF N.length body)) := by
  refine F.okX S (fun vs H Q E h => ?_) (fun cdv A outer s H vs Q E hr h => ⟨_, hbody cdv A outer s H E hr, ?_⟩)
  · obtain ⟨av, ds, _, r, hl, _⟩ := h
    rw [repL.length r]; exact hl
  · obtain ⟨av, ds, hav, r, hl, h⟩ := h
    have hps : ps.length ≤ N.length := by
      have := congrArg List.length S.pre
      rw [List.length_take] at this
      omega
    have hlv := repL.length r
    refine ⟨av, [], ds.map some ++ List.replicate (N.length - ds.length) none, [], ⟨Exh.refl H, by simp, List.nodup_nil, rfl, fun n mo a h => by simp at h, fun a q => ⟨by simp, hav a q⟩, ?_, fun i d hd => ?_⟩, ?_⟩
    · unfold L2.start
      simp only [List.length_append, List.length_map, List.length_replicate]
      omega
    · have hi : i < ds.length := by
        by_cases q : i < ds.length
        · exact q
        · rw [List.getElem?_append_right (by simpa using q), List.getElem?_replicate] at hd
          split at hd <;> cases hd
      rw [List.getElem?_append_left (by simpa using hi), List.getElem?_map] at hd
      have key : ∀ {ds : List D} {vs : List V} {i : Nat} {d : D}, repL K mg H av [] H ds vs → ds[i]? = some d → ∃ v, vs[i]? = some v ∧ rep K mg H av [] H d v := by
        intro ds
        induction ds with
        | nil => intro vs i d _ h; simp at h
        | cons d0 ds ih =>
          intro vs i d hr h
          obtain ⟨x, rr, rfl, rx, rt⟩ := hr
          cases i with
          | zero =>
            simp at h
            subst h
            exact ⟨x, rfl, rx⟩
          | succ i =>
            obtain ⟨v, a, b⟩ := ih rt (by simpa using h)
            exact ⟨v, by simpa using a, b⟩
      cases hq : ds[i]? with
      | none => rw [hq] at hd; cases hd
      | some d1 =>
        rw [hq] at hd
        cases hd
        obtain ⟨v, a, b⟩ := key r hq
        refine ⟨v, ?_, b⟩
        unfold L2.start
        rw [List.getElem?_append_left (by simp; omega), List.getElem?_map, a]
        rfl
    · unfold runF at h
      match hb : body (ds.map some ++ List.replicate (N.length - ds.length) none) [], h with
      | none, h => exact h.elim
      | some (.nx, sd', μ'), h => exact fun σ' θ' H' g R => h .non H' R.ex ⟨rfl, rfl, fun _ e => by cases e⟩
      | some (.ret d, sd', μ'), h => exact h
      | some (.brk, sd', μ'), h => exact h.elim
      | some (.ct, sd', μ'), h => exact h.elim
      | some (.exc e, sd', μ'), h =>
        intro cls dd σ' θ' H' g R r
        refine h cls dd H' R.ex ?_
        rcases r with ⟨c, d, vs, h1, h2, h3, n, m, h4, p, r⟩ | r
        · exact .inl ⟨c, d, vs, h1, h2, h3, by simp, m, h4, p, repF.out _ _ p r⟩
        · exact .inr r
end

/-! ### a call -/
def eCall (m : Mir) (np : Nat) (a : EA) : EE := fun sd μ => bE (a sd μ) fun ds μ1 => (argsD μ1 ds).bind fun ds' => if ds'.length = np then match m ds' with
    | none => none
    | some (.ok d) => some (.ok d, μ1)
    | some (.error e) => some (.error e, μ1)
  else none
theorem pd_call {X : Cx} {W : WX} {H0 : Hp} {x : Str} {k j np : Nat} {m : Mir} {e : Expr} {es : List Expr} {ga : EA} {p pos : Pos} (F : FnD X.prog X.w X.K X.mg X.base x k np m) (tk : Takes X W) (hr : Room j X.A) (ha : PA X (e :: es) (tA X.K X.mg H0 W ga)) (hk : k ≤ j := by decide) (hg : Gl X x := by rfl)
    (hdb : (x == ("__debug__" : Str)) = false := by decide) (he : starEach (e :: es) X.env = (false, eval e X.env) :: starEach es X.env := by rfl) (hpl : (backTo pos (starEach es X.env)).any (·.1) = false := by rfl) :
    PE X (.Call (.Name x p) (e :: es) [] pos) (tE X.K X.mg H0 W (eCall m np ga)) := by
  obtain ⟨f, fd, ps, hm, hkp, hb, hps, F⟩ := F
  refine wkE (pe_callS F (hr.mono hk) hg hm hkp hb (fun σ => passAt tk σ) ha hdb he hpl) fun σ H Q ⟨av, θ, sd, μ, R, P⟩ => ⟨av, θ, sd, μ, R, P.bind antiD fun ds μ1 vs θ1 H1 nv g1 R1 r1 P1 => ?_⟩
  have R1 := R1.plain
  cases h1 : argsD μ1 ds with
  | none => rw [h1] at P1; exact P1.elim
  | some ds' =>
    rw [h1] at P1
    have P1 : Post X.K X.mg H0 W (relD X.K X.mg H0) av θ1 sd σ H1 Q (if ds'.length = np then match m ds' with
      | none => none
      | some (.ok d) => some (.ok d, μ1)
      | some (.error e) => some (.error e, μ1)
      else none) := P1
    by_cases hn : ds'.length = np
    case neg => rw [if_neg hn] at P1; exact P1.elim
    rw [if_pos hn] at P1
    refine ⟨θ1 ++ av, ds', fun a h => ?_, args_ok R1 r1 h1, hn, ?_⟩
    · rcases List.mem_append.mp h with h | h
      · exact R1.has h
      · exact (R1.avs a h).2
    · cases hm : m ds' with
      | none => rw [hm] at P1; exact P1.elim
      | some r =>
        rw [hm] at P1
        cases r with
        | ok d =>
          intro v H' ex rr
          obtain ⟨nv, R2, r2⟩ := ret_ok R1 ex rr
          exact P1 v θ1 H' nv (Gr.of_ex ex) R2 r2
        | error e =>
          intro cls dd H' ex rr
          exact P1 cls dd θ1 H' (Gr.of_ex ex) (R1.grow ex) (retX_ok R1 rr)
end DL
set_option Elab.async false
set_option linter.all false
set_option maxRecDepth 100000
/-! DL, part g: operators, built-ins, iterators. -/
namespace DL
open PySem PySem.Spec PyProof.Rows L2

section
variable {X : Cx}
/-! ### whole numbers -/
open Classical in
noncomputable def when_ {α : Type} (p : Prop) (x : Option α) : Option α := if p then x else none
theorem when_some {α : Type} {p : Prop} {x : Option α} {d : α} (h : when_ p x = some d) : p ∧ x = some d := by
  unfold when_ at h
  split at h
  · rename_i c
    exact ⟨c, h⟩
  · cases h
theorem when_t {α : Type} {p : Prop} {x : Option α} (h : p) : when_ p x = x := if_pos h
noncomputable def gI (C : Int → Int → Prop) (g : Int → Int → D) : Mem → D → D → Option D := fun _ x y => match x, y with
  | .int i, .int j => when_ (C i j) (some (g i j))
  | _, _ => none
theorem od_I {f : Value → Value → Sem Value} {C : Int → Int → Prop} {gv : Int → Int → V} {gd : Int → Int → D} (h : OpR X f (rI C gv)) (hr : ∀ i j (H0 : Hp) av θ (H : Hp), rep X.K X.mg H0 av θ H (gd i j) (gv i j))
    (hn : ∀ i j ds, gd i j ≠ .new ds) : OpD X f (gI C gd) := fun H0 => ⟨_, h, fun av θ sd μ σ H dx dy x y d Q R rx ry hg q => by
  cases dx with
  | int i =>
    cases dy with
    | int j =>
      obtain ⟨c, hg⟩ := when_some (show when_ _ _ = some d from hg)
      cases hg
      exact ⟨i, j, rx, ry, c, q.same R (hr i j H0 av θ H) (hn i j)⟩
    | _ => cases hg
  | _ => cases hg⟩
def gI0 (g : Int → Int → D) : Mem → D → D → Option D := fun _ x y => match x, y with
  | .int i, .int j => some (g i j)
  | _, _ => none
theorem od_I0 {f : Value → Value → Sem Value} {gv : Int → Int → V} {gd : Int → Int → D} (h : OpR X f (rI0 gv)) (hr : ∀ i j (H0 : Hp) av θ (H : Hp), rep X.K X.mg H0 av θ H (gd i j) (gv i j))
    (hn : ∀ i j ds, gd i j ≠ .new ds) : OpD X f (gI0 gd) := fun H0 => ⟨_, h, fun av θ sd μ σ H dx dy x y d Q R rx ry hg q => by
  cases dx with
  | int i =>
    cases dy with
    | int j =>
      cases hg
      exact ⟨i, j, rx, ry, q.same R (hr i j H0 av θ H) (hn i j)⟩
    | _ => cases hg
  | _ => cases hg⟩
def gAddI := gI0 fun i j => .int (i + j)
def gSubI := gI0 fun i j => .int (i - j)
instance (i j : Int) : Decidable (CMulW i j) := by unfold CMulW; infer_instance
instance (i j : Int) : Decidable (CDivW i j) := by unfold CDivW; infer_instance
instance (i j : Int) : Decidable (CPow i j) := by unfold CPow; infer_instance
noncomputable def gMulI := gI CMulW fun i j => .int (i * j)
noncomputable def gDivI := gI CDivW fun i j => .int (i / j)
noncomputable def gModI := gI (fun _ j => 0 < j) fun i j => .int (i % j)
noncomputable def gPowI := gI CPow fun i j => .int (i ^ j.toNat)
theorem od_addI : OpD X (binaryOp .Add) gAddI := od_I0 op_add (fun _ _ _ _ _ _ => rfl) (fun _ _ _ e => by cases e)
theorem od_subI : OpD X (binaryOp .Sub) gSubI := od_I0 op_sub (fun _ _ _ _ _ _ => rfl) (fun _ _ _ e => by cases e)
theorem od_mulI : OpD X (binaryOp .Mult) gMulI := od_I op_mulW (fun _ _ _ _ _ _ => rfl) (fun _ _ _ e => by cases e)
theorem od_divI : OpD X (binaryOp .FloorDiv) gDivI := od_I op_fdivW (fun _ _ _ _ _ _ => rfl) (fun _ _ _ e => by cases e)
theorem od_modI : OpD X (binaryOp .Mod) gModI := od_I op_mod (fun _ _ _ _ _ _ => rfl) (fun _ _ _ e => by cases e)
theorem od_powI : OpD X (binaryOp .Pow) gPowI := od_I op_pow (fun _ _ _ _ _ _ => rfl) (fun _ _ _ e => by cases e)
theorem od_iaddI : OpD X (inplaceOp .Add) gAddI := od_I0 iop_add (fun _ _ _ _ _ _ => rfl) (fun _ _ _ e => by cases e)
theorem od_isubI : OpD X (inplaceOp .Sub) gSubI := od_I0 iop_sub (fun _ _ _ _ _ _ => rfl) (fun _ _ _ e => by cases e)
def gLtI := gI0 fun i j => .bl (decide (i < j))
def gLeI := gI0 fun i j => .bl (decide (i ≤ j))
def gGtI := gI0 fun i j => .bl (decide (j < i))
def gGeI := gI0 fun i j => .bl (decide (j ≤ i))
theorem od_ltI : OpD X (compareOp .Lt) gLtI := od_I0 op_lt (fun _ _ _ _ _ _ => rfl) (fun _ _ _ e => by cases e)
theorem od_leI : OpD X (compareOp .LtE) gLeI := od_I0 op_le (fun _ _ _ _ _ _ => rfl) (fun _ _ _ e => by cases e)
theorem od_gtI : OpD X (compareOp .Gt) gGtI := od_I0 op_gt (fun _ _ _ _ _ _ => rfl) (fun _ _ _ e => by cases e)
theorem od_geI : OpD X (compareOp .GtE) gGeI := od_I0 op_ge (fun _ _ _ _ _ _ => rfl) (fun _ _ _ e => by cases e)
def gNeg : Mem → D → Option D := fun _ x => match x with
  | .int i => some (.int (-i))
  | _ => none
theorem ud_neg : UnD X (unaryOp .USub) gNeg := fun H0 => ⟨_, un_neg, fun av θ sd μ σ H dx x d Q R rx hg q => by
  cases dx with
  | int i => cases hg; exact ⟨i, rx, q.same R rfl (fun _ e => by cases e)⟩
  | _ => cases hg⟩

/-! ### None -/
def isNonD : D → Bool
  | .non => true
  | _ => false
theorem isNon_ok {K : PySem.W.Frag} {mg : Mg} {H0 : Hp} {av θ : List Addr} {H : Hp} {d : D} {v : V} (r : rep K mg H0 av θ H d v) : decide (v = .non) = isNonD d := by
  cases d with
  | non => exact decide_eq_true r
  | bl b => have r : v = .bl b := r; subst r; rfl
  | int i => have r : v = .int i := r; subst r; rfl
  | str s => have r : v = .str s := r; subst r; rfl
  | ty n => have r : v = .ty n := r; subst r; rfl
  | exh a d C fs => obtain ⟨c, vs, e, _⟩ := r; subst e; rfl
  | tup ds => obtain ⟨a, xs, rfl, _⟩ := r; rfl
  | lst ds => obtain ⟨a, xs, rfl, _⟩ := r; rfl
  | lck ds => obtain ⟨a, xs, rfl, _⟩ := r; rfl
  | fr ds => obtain ⟨a, xs, rfl, _⟩ := r; rfl
  | new ds => obtain ⟨a, xs, rfl, _⟩ := r; rfl
  | ref n => obtain ⟨a, rfl, _⟩ := r; rfl
  | glob x => obtain ⟨a, rfl, _⟩ := r; rfl
  | obj C fs => obtain ⟨a, c, dx, vs, rfl, _⟩ := r; rfl
  | bor C fs => obtain ⟨a, c, dx, vs, rfl, _⟩ := r; rfl
def gIsN (neg : Bool) : Mem → D → D → Option D := fun _ x y => match y with
  | .non => some (.bl (if neg then !isNonD x else isNonD x))
  | _ => none
theorem od_isN : OpD X (compareOp .Is) (gIsN false) := fun H0 => ⟨_, op_isN, fun av θ sd μ σ H dx dy x y d Q R rx ry hg q => by
  cases dy with
  | non => cases hg; exact ⟨ry, by rw [isNon_ok rx]; exact q.same R rfl (fun _ e => by cases e)⟩
  | _ => cases hg⟩
theorem od_notN : OpD X (compareOp .IsNot) (gIsN true) := fun H0 => ⟨_, op_notN, fun av θ sd μ σ H dx dy x y d Q R rx ry hg q => by
  cases dy with
  | non => cases hg; exact ⟨ry, by rw [isNon_ok rx]; exact q.same R rfl (fun _ e => by cases e)⟩
  | _ => cases hg⟩

/-! ### data: ==, in -/
mutual
def toP : D → Option PyData
  | .non => some .none
  | .bl b => some (.bool b)
  | .int i => some (.int i)
  | .str s => some (.str s)
  | .tup ds => (toPs ds).map .tuple
  | .lst ds | .lck ds | .fr ds | .new ds => (toPs ds).map .list
  | _ => none
def toPs : List D → Option (List PyData)
  | [] => some []
  | d :: ds => (toP d).bind fun p => (toPs ds).map fun ps => p :: ps
end
def toPm (μ : Mem) (d : D) : Option PyData := match d with
  | .ref n => match μ[n]? with
    | some (.lst ds) => (toPs ds).map .list
    | _ => none
  | d => toP d
section
variable {K : PySem.W.Frag} {mg : Mg} {H0 : Hp} {av θ : List Addr} {H : Hp} {sd : Sl} {μ : Mem} {σ : L2.St}
mutual
theorem toP_ok (R : RS K mg H0 av θ sd μ σ H) : ∀ (d : D) (v : V) (p : PyData), rep K mg H0 av θ H d v → toP d = some p → Dp K H v p
  | .non, _, _, r, h => by cases h; cases r; exact .non
  | .bl b, _, _, r, h => by cases h; cases r; exact .bl b
  | .int i, _, _, r, h => by cases h; cases r; exact .int i
  | .str s, _, _, r, h => by cases h; cases r; exact .str s
  | .tup ds, v, p, ⟨a, xs, e, t, r⟩, h => by
    subst e
    simp only [toP] at h
    cases q : toPs ds with
    | none => rw [q] at h; cases h
    | some ps => rw [q] at h; cases h; exact .tup t.sq (toPs_ok R ds xs ps r q)
  | .lst ds, v, p, ⟨a, xs, e, t, r⟩, h => by
    subst e
    simp only [toP] at h
    cases q : toPs ds with
    | none => rw [q] at h; cases h
    | some ps => rw [q] at h; cases h; exact .lst (.inl (.inl (R.ex _ _ t))) (toPs_ok R ds xs ps r q)
  | .lck ds, v, p, ⟨a, xs, e, t, r⟩, h => by
    subst e
    simp only [toP] at h
    cases q : toPs ds with
    | none => rw [q] at h; cases h
    | some ps => rw [q] at h; cases h; exact .lst (SqL.exh R.ex t) (toPs_ok R ds xs ps r q)
  | .fr ds, v, p, ⟨a, xs, e, _, _, _, t, r⟩, h => by
    subst e
    simp only [toP] at h
    cases q : toPs ds with
    | none => rw [q] at h; cases h
    | some ps => rw [q] at h; cases h; exact .lst (.inl (.inl t)) (toPs_ok R ds xs ps r q)
  | .new ds, v, p, ⟨a, xs, e, _, _, _, t, r⟩, h => by
    subst e
    simp only [toP] at h
    cases q : toPs ds with
    | none => rw [q] at h; cases h
    | some ps => rw [q] at h; cases h; exact .lst (.inl (.inl t)) (toPs_ok R ds xs ps r q)
  | .ref _, _, _, _, h => by simp [toP] at h
  | .glob _, _, _, _, h => by simp [toP] at h
  | .ty _, _, _, _, h => by simp [toP] at h
  | .obj _ _, _, _, _, h => by simp [toP] at h
  | .bor _ _, _, _, _, h => by simp [toP] at h
  | .exh _ _ _ _, _, _, _, h => by simp [toP] at h
theorem toPs_ok (R : RS K mg H0 av θ sd μ σ H) : ∀ (ds : List D) (vs : List V) (ps : List PyData), repL K mg H0 av θ H ds vs → toPs ds = some ps → DpAll K H vs ps
  | [], vs, ps, r, h => by
    have r : vs = [] := r
    subst r
    simp only [toPs] at h
    cases h
    exact .nil
  | d :: ds, vs, ps, ⟨x, rr, e, rx, rt⟩, h => by
    subst e
    simp only [toPs] at h
    cases q : toP d with
    | none => rw [q] at h; cases h
    | some p =>
      rw [q] at h
      cases q2 : toPs ds with
      | none => rw [q2] at h; cases h
      | some p2 =>
        rw [q2] at h
        cases h
        exact .cons (toP_ok R d x p rx q) (toPs_ok R ds rr p2 rt q2)
end
theorem toPm_ok (R : RS K mg H0 av θ sd μ σ H) {d : D} {v : V} {p : PyData} (r : rep K mg H0 av θ H d v) (h : toPm μ d = some p) : Dp K H v p := by
  cases d with
  | ref n =>
    obtain ⟨a, e, hn⟩ := r
    subst e
    have h : (match μ[n]? with
      | some (.lst ds) => (toPs ds).map PyData.list
      | _ => none) = some p := h
    cases hm : μ[n]? with
    | none => rw [hm] at h; cases h
    | some mo =>
      rw [hm] at h
      cases mo with
      | ins C fs => cases h
      | lst ds =>
        have h : (toPs ds).map PyData.list = some p := h
        obtain ⟨xs, t, r⟩ := R.mem n _ a hm hn
        cases q : toPs ds with
        | none => rw [q] at h; cases h
        | some ps => rw [q] at h; cases h; exact .lst (.inl (.inl t)) (toPs_ok R ds xs ps r q)
  | _ => exact toP_ok R _ _ _ r h
end
def gEqD (neg : Bool) : Mem → D → D → Option D := fun μ x y => (toPm μ x).bind fun p => (toPm μ y).bind fun q => if (SeqAt.shaped p && SeqAt.shaped q) = true then some (.bl (if neg then !PyData.eqv p q else PyData.eqv p q)) else none
theorem od_eqD (hu : X.A.units + 64 < cLine) : OpD X (compareOp .Eq) (gEqD false) := fun H0 => ⟨_, op_eqD hu, fun av θ sd μ σ H dx dy x y d Q R rx ry hg q => by
  unfold gEqD at hg
  cases h1 : toPm μ dx with
  | none => rw [h1] at hg; cases hg
  | some p =>
    cases h2 : toPm μ dy with
    | none => rw [h1, h2] at hg; cases hg
    | some p' =>
      rw [h1, h2] at hg
      simp only [Option.bind_some] at hg
      split at hg
      · rename_i hs
        cases hg
        rw [Bool.and_eq_true] at hs
        exact ⟨p, p', toPm_ok R rx h1, toPm_ok R ry h2, hs.1, hs.2, q.same R rfl (fun _ e => by cases e)⟩
      · cases hg⟩
theorem od_neD (hu : X.A.units + 64 < cLine) : OpD X (compareOp .NotEq) (gEqD true) := fun H0 => ⟨_, op_neD hu, fun av θ sd μ σ H dx dy x y d Q R rx ry hg q => by
  unfold gEqD at hg
  cases h1 : toPm μ dx with
  | none => rw [h1] at hg; cases hg
  | some p =>
    cases h2 : toPm μ dy with
    | none => rw [h1, h2] at hg; cases hg
    | some p' =>
      rw [h1, h2] at hg
      simp only [Option.bind_some] at hg
      split at hg
      · rename_i hs
        cases hg
        rw [Bool.and_eq_true] at hs
        exact ⟨p, p', toPm_ok R rx h1, toPm_ok R ry h2, hs.1, hs.2, q.same R rfl (fun _ e => by cases e)⟩
      · cases hg⟩
/-- x in a list or a tuple of data -/
def gInD (neg : Bool) : Mem → D → D → Option D := fun μ x y => (toPm μ x).bind fun p => (toPm μ y).bind fun q => match q with
  | .list ds => if (SeqAt.shaped p && SeqAt.shaped (.list ds)) = true then some (.bl (if neg then !(ds.any fun z => PyData.eqv z p) else ds.any fun z => PyData.eqv z p)) else none
  | .tuple ds => if (SeqAt.shaped p && SeqAt.shaped (.tuple ds)) = true then some (.bl (if neg then !(ds.any fun z => PyData.eqv z p) else ds.any fun z => PyData.eqv z p)) else none
  | _ => none
def rInT (K : PySem.W.Frag) (neg : Bool) : R2 := fun x y H Q => ∃ d ds, Dp K H x d ∧ (Dp K H y (.list ds) ∧ SeqAt.shaped (.list ds) = true ∨ Dp K H y (.tuple ds) ∧ SeqAt.shaped (.tuple ds) = true) ∧ SeqAt.shaped d = true ∧
  Q (.bl (if neg then !(ds.any fun z => PyData.eqv z d) else ds.any fun z => PyData.eqv z d)) H
theorem opr_in (hu : X.A.units + 65 < cLine) : OpR X (compareOp .In) (rInT X.K false) := by
  intro pins s σ H x y v u Q I rx ry h
  obtain ⟨d, ds, hd, hds, sd, q⟩ := h
  obtain ⟨as, r1⟩ := Dp.reads I d x v hd rx
  rcases hds with ⟨he, se⟩ | ⟨he, se⟩
  · exact op_inD hu pins s σ H x y v u Q I rx ry ⟨d, ds, hd, he, sd, se, q⟩
  · obtain ⟨bs, r2⟩ := Dp.reads I (.tuple ds) y u he ry
    exact SeqAt.in_tuple_reads r2 r1 (SeqAt.canLay_of_shaped se) (SeqAt.canLay_of_shaped sd) (room_in_shaped sd hu) ⟨.bl _, H, I, rfl, q⟩
theorem opr_notIn (hu : X.A.units + 65 < cLine) : OpR X (compareOp .NotIn) (rInT X.K true) := by
  intro pins s σ H x y v u Q I rx ry h
  obtain ⟨d, ds, hd, hds, sd, q⟩ := h
  obtain ⟨as, r1⟩ := Dp.reads I d x v hd rx
  rcases hds with ⟨he, se⟩ | ⟨he, se⟩
  · exact op_notInD hu pins s σ H x y v u Q I rx ry ⟨d, ds, hd, he, sd, se, q⟩
  · obtain ⟨bs, r2⟩ := Dp.reads I (.tuple ds) y u he ry
    exact SeqAt.notIn_tuple_reads r2 r1 (SeqAt.canLay_of_shaped se) (SeqAt.canLay_of_shaped sd) (room_in_shaped sd hu) ⟨.bl _, H, I, rfl, q⟩
theorem in_ask {H0 : Hp} {neg : Bool} {av θ : List Addr} {sd : Sl} {μ : Mem} {σ : L2.St} {H : Hp} {dx dy : D} {x y : V} {d : D} {Q : VK} (R : RS X.K X.mg H0 av θ sd μ σ H) (rx : rep X.K X.mg H0 av θ H dx x) (ry : rep X.K X.mg H0 av θ H dy y) (hg : gInD neg μ dx dy = some d)
    (q : Asks X H0 av θ sd μ σ H d Q) : rInT X.K neg x y H Q := by
  unfold gInD at hg
  cases h1 : toPm μ dx with
  | none => rw [h1] at hg; cases hg
  | some p =>
    cases h2 : toPm μ dy with
    | none => rw [h1, h2] at hg; cases hg
    | some p' =>
      rw [h1, h2] at hg
      simp only [Option.bind_some] at hg
      split at hg
      · split at hg
        · rename_i hs
          cases hg
          rw [Bool.and_eq_true] at hs
          exact ⟨p, _, toPm_ok R rx h1, .inl ⟨toPm_ok R ry h2, hs.2⟩, hs.1, q.same R rfl (fun _ e => by cases e)⟩
        · cases hg
      · split at hg
        · rename_i hs
          cases hg
          rw [Bool.and_eq_true] at hs
          exact ⟨p, _, toPm_ok R rx h1, .inr ⟨toPm_ok R ry h2, hs.2⟩, hs.1, q.same R rfl (fun _ e => by cases e)⟩
        · cases hg
      · cases hg
theorem od_in (hu : X.A.units + 65 < cLine) : OpD X (compareOp .In) (gInD false) := fun H0 => ⟨_, opr_in hu, fun _ _ _ _ _ _ _ _ _ _ _ _ R rx ry hg q => in_ask R rx ry hg q⟩
theorem od_notIn (hu : X.A.units + 65 < cLine) : OpD X (compareOp .NotIn) (gInD true) := fun H0 => ⟨_, opr_notIn hu, fun _ _ _ _ _ _ _ _ _ _ _ _ R rx ry hg q => in_ask R rx ry hg q⟩
end
end DL
set_option Elab.async false
set_option linter.all false
set_option maxRecDepth 100000
/-! DL, part h: tuple times number; sequences. -/
namespace DL
open PySem PySem.Spec PyProof.Rows L2

/-! ### t * k, k at most 1 -/
theorem tmul_none (l : Addr) (xs : Array Value) (n : Nat) (dd : Option Addr) (sl : Array (Option Value)) (k : Int) (u : Tok) (a0 : (decide (k < -(2 ^ 63)) || decide (k ≥ 2 ^ 63)) = false) (a1 : (xs.isEmpty || k == 1) = false) (a2 : (decide (k ≤ 0) || xs.isEmpty) = true) :
    Meets (Builtin.«tuple.__mul__» ⟨[.ref l, .int k u], []⟩) (fun _ R s => s.heap.get? l = some { cls := .type "tuple", dict := dd, data := .seq xs n, slots := sl } ∧
      R (.ok (.ret (Value.ref s.heap.objs.size))) { s with heap := s.heap.push { cls := Value.type "tuple", data := Data.seq #[] }, toks := s.toks }) :=
  .of_wp fun prog w A R s z => by
    obtain ⟨hp, g, d, tk, os⟩ := s
    obtain ⟨hl, z⟩ := z
    have f1 := AutoSeq1.idx_int
    wp_walk using wpAny_loadPart' hl
    repeat (first
      | (refine wpAny_ite_false (decide_eq_false (by rw [a0]; exact Bool.false_ne_true)) ?_; wp_walk using wpAny_loadPart' hl)
      | (refine wpAny_ite_false (decide_eq_false (by rw [a1]; exact Bool.false_ne_true)) ?_; wp_walk using wpAny_loadPart' hl)
      | (refine wpAny_ite_true (decide_eq_true a2) ?_; wp_walk using wpAny_loadPart' hl))
    exact ⟨_, rfl, z⟩
theorem tmul_one (l : Addr) (xs : Array Value) (n : Nat) (dd : Option Addr) (sl : Array (Option Value)) (k : Int) (u : Tok) (a0 : (decide (k < -(2 ^ 63)) || decide (k ≥ 2 ^ 63)) = false) (a1 : (xs.isEmpty || k == 1) = true) :
    Meets (Builtin.«tuple.__mul__» ⟨[.ref l, .int k u], []⟩) (fun _ R s => s.heap.get? l = some { cls := .type "tuple", dict := dd, data := .seq xs n, slots := sl } ∧ R (.ok (.ret (Value.ref l))) s) :=
  .of_wp fun prog w A R s z => by
    obtain ⟨hp, g, d, tk, os⟩ := s
    obtain ⟨hl, z⟩ := z
    have f1 := AutoSeq1.idx_int
    wp_walk using wpAny_loadPart' hl
    repeat (first
      | (refine wpAny_ite_false (decide_eq_false (by rw [a0]; exact Bool.false_ne_true)) ?_; wp_walk using wpAny_loadPart' hl)
      | (refine wpAny_ite_true (decide_eq_true a1) ?_; wp_walk using wpAny_loadPart' hl))
    exact ⟨_, rfl, z⟩
section
variable {X : Cx}
def rTm (K : PySem.W.Frag) : R2 := fun x y H Q => ∃ l k xs, x = .ref l ∧ y = .int k ∧ SqT K H l xs ∧ (-(2 ^ 63) ≤ k ∧ k < 2 ^ 63) ∧
  ((xs = [] ∨ k = 1) ∧ Q (.ref l) H ∨ (xs ≠ [] ∧ k ≤ 0 ∧ ∀ p, H p = none → Q (.ref p) (upd H p (.tup []))) ∨
    (xs ≠ [] ∧ 2 ≤ k ∧ k ≤ 1000 ∧ xs.length ≤ 1000 ∧ ∀ p, H p = none → Q (.ref p) (upd H p (.tup (List.replicate k.toNat xs).flatten))))
theorem opr_tm : OpR X (binaryOp .Mult) (rTm X.K) := by
  intro pins s σ H x y v u Q I rx ry h
  obtain ⟨l, k, xs, rfl, rfl, hT, hk, h⟩ := h
  have ca : (decide (k < -(2 ^ 63)) || decide (k ≥ 2 ^ 63)) = false := by
    rw [decide_eq_false (by omega), decide_eq_false (by omega)]; rfl
  rcases h with ⟨h1, q⟩ | ⟨hne, h0, q⟩ | ⟨hne, h2, h3, hz, q⟩
  · cases rx
    obtain ⟨t, rfl⟩ := ry
    obtain ⟨ws, r, ⟨⟨cl, dd, da, sl⟩, ho, hc, n, hd⟩, hs⟩ := I.tuple hT
    simp only at hc hd
    subst hc hd
    have cb : (ws.toArray.isEmpty || k == 1) = true := by
      rcases h1 with h1 | h1
      · subst h1; cases r; rfl
      · subst h1; simp
    exact wpAny_binaryOp_repeat_ref (T := "tuple") (U := "int") (by decide) ⟨_, ho, rfl⟩ (fun s1 => typeIs_int s1 k t) noFill_tuple_mul F.fills_int_mul F.slot_int_rmul repeat_tuple F.slot_int_index.lookup
      (call_meets F.slot_int_rmul (typeIs_int s k t) F.entry_int_rmul (F.args_int_rmul_2 _ _) (int_rmul_tuple k t l ws.toArray n dd sl)
        ⟨ho, rfl, ⟨_, ho, rfl⟩, call_meets F.slot_tuple_mul ⟨_, ho, rfl⟩ F.entry_tuple_mul (F.args_tuple_mul_2 _ _) (tmul_one l ws.toArray n dd sl k t ca cb) ⟨ho, ⟨.ref l, H, I, rfl, q⟩⟩⟩)
  · cases rx
    obtain ⟨t, rfl⟩ := ry
    obtain ⟨ws, r, ⟨⟨cl, dd, da, sl⟩, ho, hc, n, hd⟩, hs⟩ := I.tuple hT
    simp only at hc hd
    subst hc hd
    have hi : ws.toArray.isEmpty = false := by
      cases r with
      | nil => exact absurd rfl hne
      | cons _ _ => rfl
    have cb : (ws.toArray.isEmpty || k == 1) = false := by
      rw [hi, Bool.false_or]; exact beq_eq_false_iff_ne.mpr (by omega)
    have cc : (decide (k ≤ 0) || ws.toArray.isEmpty) = true := by
      rw [decide_eq_true h0]; rfl
    refine wpAny_binaryOp_repeat_ref (T := "tuple") (U := "int") (by decide) ⟨_, ho, rfl⟩ (fun s1 => typeIs_int s1 k t) noFill_tuple_mul F.fills_int_mul F.slot_int_rmul repeat_tuple F.slot_int_index.lookup
      (call_meets F.slot_int_rmul (typeIs_int s k t) F.entry_int_rmul (F.args_int_rmul_2 _ _) (int_rmul_tuple k t l ws.toArray n dd sl)
        ⟨ho, rfl, ⟨_, ho, rfl⟩, call_meets F.slot_tuple_mul ⟨_, ho, rfl⟩ F.entry_tuple_mul (F.args_tuple_mul_2 _ _) (tmul_none l ws.toArray n dd sl k t ca cb cc) ⟨ho, ?_⟩⟩)
    refine ⟨.ref s.heap.objs.size, _, I.laid (t' := s.toks) (o := .tup []) (fun b ob z => Heap.get?_push_of_some _ z) (Nat.le_refl _) ?_, rfl, q _ (I.hok.fresh (Nat.le_refl _))⟩
    exact ⟨Nat.zero_le _, [], .nil, IsTup.new _ _⟩
  · exact op_repT pins s σ H _ _ v u Q I rx ry ⟨l, k, xs, rfl, rfl, hT, hne, h2, h3, hz, q⟩
/-- t * k -/
noncomputable def gMulT : Mem → D → D → Option D := fun _ x y => match x, y with
  | .tup ds, .int k => when_ (k ≤ 1000 ∧ ds.length ≤ 1000 ∧ -(2 ^ 63) ≤ k) (some (.tup (List.replicate k.toNat ds).flatten))
  | _, _ => none
theorem repL.app {K : PySem.W.Frag} {mg : Mg} {H0 : Hp} {av θ : List Addr} {H : Hp} : ∀ {ds es : List D} {xs ys : List V}, repL K mg H0 av θ H ds xs → repL K mg H0 av θ H es ys → repL K mg H0 av θ H (ds ++ es) (xs ++ ys)
  | [], es, xs, ys, h, h2 => by
    have h : xs = [] := h
    subst h
    exact h2
  | d :: ds, es, _, ys, ⟨x, r, e, h, t⟩, h2 => by
    subst e
    exact ⟨x, r ++ ys, rfl, h, repL.app t h2⟩
theorem repL.rept {K : PySem.W.Frag} {mg : Mg} {H0 : Hp} {av θ : List Addr} {H : Hp} {ds : List D} {xs : List V} (h : repL K mg H0 av θ H ds xs) : ∀ n : Nat, repL K mg H0 av θ H (List.replicate n ds).flatten (List.replicate n xs).flatten
  | 0 => rfl
  | n + 1 => by
    rw [List.replicate_succ, List.flatten_cons, List.replicate_succ, List.flatten_cons]
    exact repL.app h (repL.rept h n)
theorem repL.nil_iff {K : PySem.W.Frag} {mg : Mg} {H0 : Hp} {av θ : List Addr} {H : Hp} {ds : List D} {xs : List V} (h : repL K mg H0 av θ H ds xs) : xs = [] ↔ ds = [] := by
  have := repL.length h
  constructor
  · intro e; subst e; exact List.eq_nil_of_length_eq_zero this.symm
  · intro e; subst e; exact List.eq_nil_of_length_eq_zero this
theorem rep_nl (ds : List D) : ∀ es, D.tup ds ≠ D.new es := fun _ e => by cases e
theorem od_mulT : OpD X (binaryOp .Mult) gMulT := fun H0 => ⟨_, opr_tm, fun av θ sd μ σ H dx dy x y d Q R rx ry hg q => by
  cases dx with
  | tup ds =>
    cases dy with
    | int k =>
      · obtain ⟨c, hg⟩ := when_some (show when_ _ _ = some d from hg)
        cases hg
        obtain ⟨a, xs, rfl, t, r⟩ := rx
        have hl := repL.length r
        refine ⟨a, k, xs, rfl, ry, t.sq, ⟨c.2.2, by omega⟩, ?_⟩
        by_cases hx : xs = []
        · refine .inl ⟨.inl hx, q.same R ⟨a, xs, rfl, t, ?_⟩ (rep_nl _)⟩
          have hd := (repL.nil_iff r).mp hx
          subst hd
          rw [show (List.replicate k.toNat ([] : List D)).flatten = [] by simp]
          exact r
        · by_cases h1 : k = 1
          · refine .inl ⟨.inr h1, q.same R ⟨a, xs, rfl, t, ?_⟩ (rep_nl _)⟩
            subst h1
            rw [show (List.replicate (1 : Int).toNat ds).flatten = ds by simp]
            exact r
          · by_cases h0 : k ≤ 0
            · refine .inr (.inl ⟨hx, h0, fun p hp => ?_⟩)
              refine Asks.tup q R (xs := []) ?_ hp
              rw [show k.toNat = 0 by omega]
              exact rfl
            · refine .inr (.inr ⟨hx, by omega, c.1, by omega, fun p hp => Asks.tup q R (repL.rept r _) hp⟩)
    | _ => cases hg
  | _ => cases hg⟩

/-! ### sequences -/
/-- a list in any hands -/
def lsAny (μ : Mem) : D → Option (List D)
  | .lck ds => some ds
  | d => isLst μ d
variable {H0 : Hp} {av θ : List Addr} {sd : Sl} {μ : Mem} {σ : L2.St} {H : Hp}
theorem lsAny_at {d : D} {v : V} {ds : List D} (R : RS X.K X.mg H0 av θ sd μ σ H) (r : rep X.K X.mg H0 av θ H d v) (h : lsAny μ d = some ds) : ∃ a xs, v = .ref a ∧ SqL X.K H a xs ∧ repL X.K X.mg H0 av θ H ds xs := by
  by_cases q : ∃ es, d = .lck es
  · obtain ⟨es, rfl⟩ := q
    cases h
    obtain ⟨a, xs, e, t, r⟩ := r
    exact ⟨a, xs, e, SqL.exh R.ex t, r⟩
  · have h : isLst μ d = some ds := by
      cases d <;> first | exact h | exact absurd ⟨_, rfl⟩ q
    obtain ⟨a, xs, e, t, r⟩ := lst_at R r h
    exact ⟨a, xs, e, .inl (.inl t), r⟩
theorem repL.get {K : PySem.W.Frag} {mg : Mg} : ∀ {ds : List D} {xs : List V} {i : Nat} {d : D}, repL K mg H0 av θ H ds xs → ds[i]? = some d → ∃ v, xs[i]? = some v ∧ rep K mg H0 av θ H d v
  | [], _, _, _, _, h => by simp at h
  | d0 :: ds, _, 0, d, ⟨x, r, e, rx, rt⟩, h => by
    simp at h
    subst h
    subst e
    exact ⟨x, rfl, rx⟩
  | d0 :: ds, _, i + 1, d, ⟨x, r, e, rx, rt⟩, h => by
    subst e
    obtain ⟨v, a, b⟩ := repL.get rt (by simpa using h)
    exact ⟨v, by simpa using a, b⟩
theorem repL.atI {K : PySem.W.Frag} {mg : Mg} {ds : List D} {xs : List V} {i : Int} {d : D} (r : repL K mg H0 av θ H ds xs) (h : L2.atI ds i = some d) : ∃ v, L2.atI xs i = some v ∧ rep K mg H0 av θ H d v := by
  unfold L2.atI at h ⊢
  rw [repL.length r]
  cases q : ixN ds.length i with
  | none => rw [q] at h; cases h
  | some j => rw [q] at h; exact repL.get r h
/-- an item is never a list just made -/
def itemD (o : Option D) : Option D := match o with
  | some (.new _) => none
  | o => o
theorem itemD_some {o : Option D} {d : D} (h : itemD o = some d) : o = some d ∧ ∀ ds, d ≠ .new ds := by
  cases o with
  | none => cases h
  | some e => cases e <;> first | (cases h; exact ⟨rfl, fun _ e => by cases e⟩) | cases h
def gIxL : Mem → D → D → Option D := fun μ x y => match y with
  | .int i => (lsAny μ x).bind fun ds => itemD (L2.atI ds i)
  | _ => none
def gIxT : Mem → D → D → Option D := fun _ x y => match x, y with
  | .tup ds, .int i => itemD (L2.atI ds i)
  | _, _ => none
def gIxS : Mem → D → D → Option D := fun _ x y => match x, y with
  | .str z, .int i => if z.length ≤ sizeLine then (L2.atI z.cps.toList i).map fun c => .str ⟨#[c]⟩ else none
  | _, _ => none
theorem xd_list : IxD X gIxL := fun H0 => ⟨_, ix_list, fun av θ sd μ σ H dx dy x y d Q R rx ry hg q => by
  cases dy with
  | int i =>
    have hg : ((lsAny μ dx).bind fun ds => itemD (L2.atI ds i)) = some d := hg
    cases h : lsAny μ dx with
    | none => rw [h] at hg; cases hg
    | some ds =>
      rw [h] at hg
      obtain ⟨h1, hn⟩ := itemD_some hg
      obtain ⟨a, xs, e, t, r⟩ := lsAny_at R rx h
      obtain ⟨v, hv, rv⟩ := repL.atI r h1
      exact ⟨a, xs, i, v, e, ry, t, hv, q.same R rv hn⟩
  | _ => cases hg⟩
theorem xd_tup : IxD X gIxT := fun H0 => ⟨_, ix_tup, fun av θ sd μ σ H dx dy x y d Q R rx ry hg q => by
  cases dx with
  | tup ds =>
    cases dy with
    | int i =>
      obtain ⟨h1, hn⟩ := itemD_some (show itemD (L2.atI ds i) = some d from hg)
      obtain ⟨a, xs, e, t, r⟩ := rx
      obtain ⟨v, hv, rv⟩ := repL.atI r h1
      exact ⟨a, xs, i, v, e, ry, t.sq, hv, q.same R rv hn⟩
    | _ => cases hg
  | _ => cases hg⟩
theorem xd_str : IxD X gIxS := fun H0 => ⟨_, ix_str, fun av θ sd μ σ H dx dy x y d Q R rx ry hg q => by
  cases dx with
  | str z =>
    cases dy with
    | int i =>
      have hg : (if z.length ≤ sizeLine then (L2.atI z.cps.toList i).map fun c => D.str ⟨#[c]⟩ else none) = some d := hg
      split at hg
      · rename_i hz
        cases h : L2.atI z.cps.toList i with
        | none => rw [h] at hg; cases hg
        | some c =>
          rw [h] at hg
          cases hg
          exact ⟨z, i, c, rx, ry, hz, h, q.same R rfl (fun _ e => by cases e)⟩
      · cases hg
    | _ => cases hg
  | _ => cases hg⟩
theorem IxR.or' {r r' : R2} (h : IxR X r) (h' : IxR X r') : IxR X (fun x y H Q => r x y H Q ∨ r' x y H Q) := by
  intro value slice pins s σ H x y v u Q I rx ry hh hs
  rcases hh with hh | hh
  · exact h value slice pins s σ H x y v u Q I rx ry hh hs
  · exact h' value slice pins s σ H x y v u Q I rx ry hh hs
theorem IxD.or {g g' : Mem → D → D → Option D} (h : IxD X g) (h' : IxD X g') : IxD X (fun μ x y => (g μ x y).or (g' μ x y)) := fun H0 => by
  obtain ⟨r, hr, k⟩ := h H0
  obtain ⟨r', hr', k'⟩ := h' H0
  refine ⟨_, IxR.or' hr hr', fun av θ sd μ σ H dx dy x y d Q R rx ry e q => ?_⟩
  have e : (g μ dx dy).or (g' μ dx dy) = some d := e
  cases z : g μ dx dy with
  | some u =>
    rw [z] at e
    obtain rfl : u = d := Option.some.inj e
    exact .inl (k av θ sd μ σ H dx dy x y u Q R rx ry z q)
  | none =>
    rw [z] at e
    exact .inr (k' av θ sd μ σ H dx dy x y d Q R rx ry e q)
/-- x[i] of a list, a tuple, a text -/
def gIx : Mem → D → D → Option D := fun μ x y => (gIxT μ x y).or ((gIxL μ x y).or (gIxS μ x y))
theorem xd_ix : IxD X gIx := xd_tup.or (xd_list.or xd_str)
end
end DL
set_option Elab.async false
set_option linter.all false
set_option maxRecDepth 100000
/-! DL, part i: slices, sums of sequences, built-ins, what is walked. -/
namespace DL
open PySem PySem.Spec PyProof.Rows L2
section
variable {X : Cx} {K : PySem.W.Frag} {mg : Mg} {H0 : Hp} {W : WX} {av θ : List Addr} {sd : Sl} {μ : Mem} {σ : L2.St} {H : Hp}
/-! ### t + u, xs + ys, s + t -/
def gAddT : Mem → D → D → Option D := fun _ x y => match x, y with
  | .tup ds, .tup es => if ds.length + es.length ≤ sizeLine then some (.tup (ds ++ es)) else none
  | _, _ => none
theorem od_addT : OpD X (binaryOp .Add) gAddT := fun H0 => ⟨_, op_catA, fun av θ sd μ σ H dx dy x y d Q R rx ry hg q => by
  cases dx with
  | tup ds =>
    cases dy with
    | tup es =>
      have hg : (if ds.length + es.length ≤ sizeLine then some (D.tup (ds ++ es)) else none) = some d := hg
      split at hg
      · rename_i hz
        cases hg
        obtain ⟨a, xs, rfl, t, r⟩ := rx
        obtain ⟨b, ys, rfl, u, s⟩ := ry
        refine ⟨a, b, xs, ys, rfl, rfl, t.sq, u.sq, by rw [repL.length r, repL.length s]; exact hz, fun e => ?_, fun _ e => ?_, fun _ _ p hp => Asks.tup q R (repL.app r s) hp⟩
        · have hd := (repL.nil_iff r).mp e
          subst hd
          exact q.same R ⟨b, ys, rfl, u, s⟩ (rep_nl _)
        · have hd := (repL.nil_iff s).mp e
          subst hd
          exact q.same R ⟨a, xs, rfl, t, by rw [List.append_nil]; exact r⟩ (rep_nl _)
      · cases hg
    | _ => cases hg
  | _ => cases hg⟩
def gAddL : Mem → D → D → Option D := fun μ x y => (isLst μ x).bind fun ds => (isLst μ y).bind fun es => if ds.length + es.length ≤ sizeLine then some (.new (ds ++ es)) else none
theorem od_addL : OpD X (binaryOp .Add) gAddL := fun H0 => ⟨_, op_cat, fun av θ sd μ σ H dx dy x y d Q R rx ry hg q => by
  unfold gAddL at hg
  cases h1 : isLst μ dx with
  | none => rw [h1] at hg; cases hg
  | some ds =>
    cases h2 : isLst μ dy with
    | none => rw [h1, h2] at hg; cases hg
    | some es =>
      rw [h1, h2] at hg
      simp only [Option.bind_some] at hg
      split at hg
      · rename_i hz
        cases hg
        obtain ⟨a, xs, e1, t, r⟩ := lst_at R rx h1
        obtain ⟨b, ys, e2, u, s⟩ := lst_at R ry h2
        exact ⟨a, b, xs, ys, e1, e2, t, u, by rw [repL.length r, repL.length s]; exact hz, fun p hp => Asks.lst q R (repL.app r s) hp⟩
      · cases hg⟩
def gAddS : Mem → D → D → Option D := fun _ x y => match x, y with
  | .str a, .str b => if a.length + b.length ≤ sizeLine then some (.str (a ++ b)) else none
  | _, _ => none
theorem od_addS : OpD X (binaryOp .Add) gAddS := fun H0 => ⟨_, op_add_str, fun av θ sd μ σ H dx dy x y d Q R rx ry hg q => by
  cases dx with
  | str a =>
    cases dy with
    | str b =>
      have hg : (if a.length + b.length ≤ sizeLine then some (D.str (a ++ b)) else none) = some d := hg
      split at hg
      · rename_i hz
        cases hg
        exact ⟨a, b, rx, ry, hz, q.same R rfl (fun _ e => by cases e)⟩
      · cases hg
    | _ => cases hg
  | _ => cases hg⟩
/-- + -/
def gAdd : Mem → D → D → Option D := fun μ x y => (gAddI μ x y).or ((gAddT μ x y).or ((gAddL μ x y).or (gAddS μ x y)))
theorem od_add : OpD X (binaryOp .Add) gAdd := od_addI.or (od_addT.or (od_addL.or od_addS))
/-- xs * k -/
noncomputable def gMulL : Mem → D → D → Option D := fun μ x y => match y with
  | .int k => (isLst μ x).bind fun ds => when_ (-(2 ^ 63) ≤ k ∧ k < 2 ^ 63 ∧ ds.length * k.toNat ≤ sizeLine) (some (.new (List.replicate k.toNat ds).flatten))
  | _ => none
theorem od_mulL : OpD X (binaryOp .Mult) gMulL := fun H0 => ⟨_, op_rep, fun av θ sd μ σ H dx dy x y d Q R rx ry hg q => by
  cases dy with
  | int k =>
    have hg : ((isLst μ dx).bind fun ds => when_ (-(2 ^ 63) ≤ k ∧ k < 2 ^ 63 ∧ ds.length * k.toNat ≤ sizeLine) (some (D.new (List.replicate k.toNat ds).flatten))) = some d := hg
    cases h1 : isLst μ dx with
    | none => rw [h1] at hg; cases hg
    | some ds =>
      rw [h1] at hg
      simp only [Option.bind_some] at hg
      · obtain ⟨hz, hg⟩ := when_some hg
        cases hg
        obtain ⟨a, xs, e1, t, r⟩ := lst_at R rx h1
        exact ⟨a, k, xs, e1, ry, t, hz.1, hz.2.1, by rw [repL.length r]; exact hz.2.2, fun p hp => Asks.lst q R (repL.rept r _) hp⟩
  | _ => cases hg⟩
noncomputable def gMul : Mem → D → D → Option D := fun μ x y => (gMulI μ x y).or ((gMulT μ x y).or (gMulL μ x y))
theorem od_mul : OpD X (binaryOp .Mult) gMul := od_mulI.or (od_mulT.or od_mulL)

/-! ### slices -/
def cutD (ds : List D) (lo hi : Option Int) : List D := (ds.drop (HT.sIx ds.length 0 lo)).take (HT.sIx ds.length ds.length hi - HT.sIx ds.length 0 lo)
theorem repL.drop : ∀ (n : Nat) {ds : List D} {xs : List V}, repL K mg H0 av θ H ds xs → repL K mg H0 av θ H (ds.drop n) (xs.drop n)
  | 0, _, _, h => h
  | n + 1, [], xs, h => by
    have h : xs = [] := h
    subst h
    exact rfl
  | n + 1, d :: ds, _, ⟨x, r, e, _, t⟩ => by subst e; exact repL.drop n t
theorem repL.take' : ∀ (n : Nat) {ds : List D} {xs : List V}, repL K mg H0 av θ H ds xs → repL K mg H0 av θ H (ds.take n) (xs.take n)
  | 0, _, _, h => rfl
  | n + 1, [], xs, h => by
    have h : xs = [] := h
    subst h
    exact rfl
  | n + 1, d :: ds, _, ⟨x, r, e, h, t⟩ => by subst e; exact ⟨x, r.take n, rfl, h, repL.take' n t⟩
theorem repL.cut {ds : List D} {xs : List V} (h : repL K mg H0 av θ H ds xs) (lo hi : Option Int) : repL K mg H0 av θ H (cutD ds lo hi) (cutV xs lo hi) := by
  unfold cutD cutV
  rw [repL.length h]
  exact repL.take' _ (repL.drop _ h)
def gSlT : Mem → D → Option Int → Option Int → Option D := fun _ x lo hi => match x with
  | .tup ds => some (.tup (cutD ds lo hi))
  | _ => none
def gSlL : Mem → D → Option Int → Option Int → Option D := fun μ x lo hi => (lsAny μ x).map fun ds => .new (cutD ds lo hi)
def gSlS : Mem → D → Option Int → Option Int → Option D := fun _ x lo hi => match x with
  | .str z => if z.length ≤ sizeLine then some (.str (cutS z lo hi)) else none
  | _ => none
theorem cutD_whole {ds : List D} {lo hi : Option Int} (h : HT.sIx ds.length 0 lo = 0 ∧ HT.sIx ds.length ds.length hi = ds.length) : cutD ds lo hi = ds := by
  unfold cutD
  rw [h.1, h.2]
  simp
theorem sd_tup : SlD X gSlT := fun H0 => ⟨_, sl_tupA, fun av θ sd μ σ H dx x lo hi d Q R rx hg q => by
  cases dx with
  | tup ds =>
    cases hg
    obtain ⟨a, xs, rfl, t, r⟩ := rx
    refine ⟨a, xs, rfl, t.sq, fun h => ?_, fun _ p hp => Asks.tup q R (r.cut lo hi) hp⟩
    rw [repL.length r] at h
    rw [cutD_whole h] at q
    exact q.same R ⟨a, xs, rfl, t, r⟩ (rep_nl _)
  | _ => cases hg⟩
theorem sd_list : SlD X gSlL := fun H0 => ⟨_, sl_list, fun av θ sd μ σ H dx x lo hi d Q R rx hg q => by
  unfold gSlL at hg
  cases h1 : lsAny μ dx with
  | none => rw [h1] at hg; cases hg
  | some ds =>
    rw [h1] at hg
    cases hg
    obtain ⟨a, xs, e, t, r⟩ := lsAny_at R rx h1
    exact ⟨a, xs, e, t, fun p hp => Asks.lst q R (r.cut lo hi) hp⟩⟩
theorem sd_str : SlD X gSlS := fun H0 => ⟨_, sl_str, fun av θ sd μ σ H dx x lo hi d Q R rx hg q => by
  cases dx with
  | str z =>
    have hg : (if z.length ≤ sizeLine then some (D.str (cutS z lo hi)) else none) = some d := hg
    split at hg
    · rename_i hz
      cases hg
      exact ⟨z, rx, hz, q.same R rfl (fun _ e => by cases e)⟩
    · cases hg
  | _ => cases hg⟩
theorem SlD.or {g g' : Mem → D → Option Int → Option Int → Option D} (h : SlD X g) (h' : SlD X g') : SlD X (fun μ x l u => (g μ x l u).or (g' μ x l u)) := fun H0 => by
  obtain ⟨r, hr, k⟩ := h H0
  obtain ⟨r', hr', k'⟩ := h' H0
  refine ⟨_, SlR.or hr hr', fun av θ sd μ σ H dx x lo hi d Q R rx e q => ?_⟩
  have e : (g μ dx lo hi).or (g' μ dx lo hi) = some d := e
  cases z : g μ dx lo hi with
  | some u =>
    rw [z] at e
    obtain rfl : u = d := Option.some.inj e
    exact .inl (k av θ sd μ σ H dx x lo hi u Q R rx z q)
  | none =>
    rw [z] at e
    exact .inr (k' av θ sd μ σ H dx x lo hi d Q R rx e q)
def gSl : Mem → D → Option Int → Option Int → Option D := fun μ x l u => (gSlT μ x l u).or ((gSlL μ x l u).or (gSlS μ x l u))
theorem sd_sl : SlD X gSl := sd_tup.or (sd_list.or sd_str)

/-! ### built-ins -/
def c1 (g : Mem → D → Option D) : Mem → List D → Option D := fun μ xs => match xs with
  | [d] => g μ d
  | _ => none
def c2 (g : Mem → D → D → Option D) : Mem → List D → Option D := fun μ xs => match xs with
  | [d, e] => g μ d e
  | _ => none
theorem cd1 {f : Value} {g : Mem → D → Option D} {r : List V → Hp → VK → Prop} (hr : CallR X f r) (k : ∀ (H0 : Hp) (av θ : List Addr) (sd : Sl) (μ : Mem) (σ : L2.St) (H : Hp) (dx : D) (x : V) (d : D) (Q : VK), RS X.K X.mg H0 av θ sd μ σ H → rep X.K X.mg H0 av θ H dx x → g μ dx = some d →
    Asks X H0 av θ sd μ σ H d Q → r [x] H Q) : CallD X f (c1 g) := fun H0 => ⟨r, hr, fun av θ sd μ σ H ds xs d Q R rx hg q => by
  match ds, rx with
  | [], _ => cases hg
  | _ :: _ :: _, _ => cases hg
  | [y], ⟨x, rr, e, hx, hr⟩ =>
    have hr : rr = [] := hr
    subst hr
    subst e
    exact k H0 av θ sd μ σ H y x d Q R hx hg q⟩
theorem cd2 {f : Value} {g : Mem → D → D → Option D} {r : List V → Hp → VK → Prop} (hr : CallR X f r) (k : ∀ (H0 : Hp) (av θ : List Addr) (sd : Sl) (μ : Mem) (σ : L2.St) (H : Hp) (dx dy : D) (x y : V) (d : D) (Q : VK), RS X.K X.mg H0 av θ sd μ σ H → rep X.K X.mg H0 av θ H dx x → rep X.K X.mg H0 av θ H dy y → g μ dx dy = some d →
    Asks X H0 av θ sd μ σ H d Q → r [x, y] H Q) : CallD X f (c2 g) := fun H0 => ⟨r, hr, fun av θ sd μ σ H ds xs d Q R rx hg q => by
  match ds, rx with
  | [], _ => cases hg
  | [_], _ => cases hg
  | _ :: _ :: _ :: _, _ => cases hg
  | [u, v], ⟨x, _, e, hx, y, rr, e2, hy, hr⟩ =>
    have hr : rr = [] := hr
    subst hr
    subst e2
    subst e
    exact k H0 av θ sd μ σ H u v x y d Q R hx hy hg q⟩
def g1Abs : Mem → D → Option D := fun _ x => match x with
  | .int i => some (.int (if i < 0 then -i else i))
  | _ => none
def gAbs := c1 g1Abs
theorem cd_abs : CallD X (.builtin "abs") gAbs := cd1 call_abs fun H0 av θ sd μ σ H dx x d Q R rx hg q => by
  cases dx with
  | int i => cases hg; have rx : x = .int i := rx; subst rx; exact ⟨i, rfl, q.same R rfl (fun _ e => by cases e)⟩
  | _ => cases hg
def g1Int : Mem → D → Option D := fun _ x => match x with
  | .int i => some (.int i)
  | .bl b => some (.int (if b then 1 else 0))
  | _ => none
def gInt := c1 g1Int
theorem cd_int : CallD X (.type "int") gInt := cd1 call_int1 fun H0 av θ sd μ σ H dx x d Q R rx hg q => by
  cases dx with
  | int i => cases hg; have rx : x = .int i := rx; subst rx; exact .inl ⟨i, rfl, q.same R rfl (fun _ e => by cases e)⟩
  | bl i => cases hg; have rx : x = .bl i := rx; subst rx; exact .inr ⟨i, rfl, q.same R rfl (fun _ e => by cases e)⟩
  | _ => cases hg
/-- the items of a list or tuple -/
def sqAny (μ : Mem) : D → Option (List D)
  | .tup ds => some ds
  | d => lsAny μ d
theorem sqAny_at {d : D} {v : V} {ds : List D} (R : RS X.K X.mg H0 av θ sd μ σ H) (r : rep X.K X.mg H0 av θ H d v) (h : sqAny μ d = some ds) : ∃ a xs, v = .ref a ∧ (SqL X.K H a xs ∨ SqT X.K H a xs) ∧ repL X.K X.mg H0 av θ H ds xs := by
  by_cases q : ∃ es, d = .tup es
  · obtain ⟨es, rfl⟩ := q
    cases h
    obtain ⟨a, xs, e, t, r⟩ := r
    exact ⟨a, xs, e, .inr t.sq, r⟩
  · have h : lsAny μ d = some ds := by
      cases d <;> first | exact h | exact absurd ⟨_, rfl⟩ q
    obtain ⟨a, xs, e, t, r⟩ := lsAny_at R r h
    exact ⟨a, xs, e, .inl t, r⟩
def g1Len : Mem → D → Option D := fun μ x => match x with
  | .str z => if z.length ≤ sizeLine then some (.int z.length) else none
  | d => (sqAny μ d).map fun ds => .int ds.length
def gLen := c1 g1Len
theorem cd_len : CallD X (.builtin "len") gLen := cd1 call_len fun H0 av θ sd μ σ H dx x d Q R rx hg q => by
  by_cases hs : ∃ z, dx = .str z
  · obtain ⟨z, rfl⟩ := hs
    have hg : (if z.length ≤ sizeLine then some (D.int z.length) else none) = some d := hg
    split at hg
    · rename_i hz
      cases hg
      have rx : x = .str z := rx
      subst rx
      exact ⟨_, z.length, rfl, ⟨hz, rfl⟩, q.same R rfl (fun _ e => by cases e)⟩
    · cases hg
  · have hg : ((sqAny μ dx).map fun ds => D.int ds.length) = some d := by
      cases dx <;> first | exact hg | exact absurd ⟨_, rfl⟩ hs
    cases h : sqAny μ dx with
    | none => rw [h] at hg; cases hg
    | some es =>
      rw [h] at hg
      cases hg
      obtain ⟨a, ys, rfl, t, r⟩ := sqAny_at R rx h
      exact ⟨_, es.length, rfl, t.elim (fun t => .inl ⟨ys, t, (repL.length r).symm⟩) (fun t => .inr ⟨ys, t, (repL.length r).symm⟩), q.same R rfl (fun _ e => by cases e)⟩
/-- ints, bools of a list -/
def intD : D → Option Int
  | .int i => some i
  | _ => none
def boolD : D → Option Bool
  | .bl i => some i
  | _ => none
def allD {α : Type} (f : D → Option α) : List D → Option (List α)
  | [] => some []
  | d :: ds => (f d).bind fun i => (allD f ds).map fun is => i :: is
theorem all_rep {α : Type} {f : D → Option α} {g : α → V} (hf : ∀ d v i, rep K mg H0 av θ H d v → f d = some i → v = g i) : ∀ {ds : List D} {xs : List V} {is : List α}, repL K mg H0 av θ H ds xs → allD f ds = some is → xs = is.map g
  | [], xs, is, r, h => by
    have r : xs = [] := r
    cases h
    exact r
  | d :: ds, xs, is, ⟨x, r, e, hx, hr⟩, h => by
    have h : ((f d).bind fun i => (allD f ds).map fun is => i :: is) = some is := h
    cases q0 : f d with
    | none => rw [q0] at h; cases h
    | some i =>
      rw [q0] at h
      cases q : allD f ds with
      | none => rw [q] at h; cases h
      | some js =>
        rw [q] at h
        cases h
        rw [e, hf d x i hx q0, all_rep hf hr q]
        rfl
theorem int_rep : ∀ d v i, rep K mg H0 av θ H d v → intD d = some i → v = V.int i := fun d v i r h => by
  cases d <;> cases h
  exact r
theorem bool_rep : ∀ d v i, rep K mg H0 av θ H d v → boolD d = some i → v = V.bl i := fun d v i r h => by
  cases d <;> cases h
  exact r
def gOver {α : Type} (f : D → Option α) (g : List α → D) : Mem → D → Option D := fun μ x => (lsAny μ x).bind fun ds => (allD f ds).map g
theorem over_at {α : Type} {f : D → Option α} {g : List α → D} {gv : α → V} (hf : ∀ d v i, rep X.K X.mg H0 av θ H d v → f d = some i → v = gv i) {dx d : D} {x : V} (R : RS X.K X.mg H0 av θ sd μ σ H) (rx : rep X.K X.mg H0 av θ H dx x) (hg : gOver f g μ dx = some d) :
    ∃ a is, x = .ref a ∧ SqL X.K H a (is.map gv) ∧ d = g is := by
  unfold gOver at hg
  cases h : lsAny μ dx with
  | none => rw [h] at hg; cases hg
  | some es =>
    rw [h] at hg
    have hg : (allD f es).map g = some d := hg
    cases h2 : allD f es with
    | none => rw [h2] at hg; cases hg
    | some is =>
      rw [h2] at hg
      cases hg
      obtain ⟨a, ys, rfl, t, r⟩ := lsAny_at R rx h
      rw [all_rep hf r h2] at t
      exact ⟨a, is, rfl, t, rfl⟩
def gSum := c1 (gOver intD fun is => .int is.sum)
theorem cd_sum (hc : X.calm = true) : CallD X (.builtin "sum") gSum := cd1 (cr_sum hc) fun H0 av θ sd μ σ H dx x d Q R rx hg q => by
  obtain ⟨a, is, rfl, t, rfl⟩ := over_at int_rep R rx hg
  exact ⟨a, is, rfl, t, q.same R rfl (fun _ e => by cases e)⟩
def gAll := c1 (gOver boolD fun is => .bl (is.all id))
def gAny := c1 (gOver boolD fun is => .bl (is.any id))
theorem cd_all (hc : X.calm = true) : CallD X (.builtin "all") gAll := cd1 (cr_all hc) fun H0 av θ sd μ σ H dx x d Q R rx hg q => by
  obtain ⟨a, is, rfl, t, rfl⟩ := over_at bool_rep R rx hg
  exact ⟨a, is, rfl, t, q.same R rfl (fun _ e => by cases e)⟩
theorem cd_any (hc : X.calm = true) : CallD X (.builtin "any") gAny := cd1 (cr_any hc) fun H0 av θ sd μ σ H dx x d Q R rx hg q => by
  obtain ⟨a, is, rfl, t, rfl⟩ := over_at bool_rep R rx hg
  exact ⟨a, is, rfl, t, q.same R rfl (fun _ e => by cases e)⟩
/-- tuple(x) -/
def g1Tuple : Mem → D → Option D := fun μ x => match x with
  | .tup ds => some (.tup ds)
  | d => (lsAny μ d).map fun ds => .tup ds
def gTuple := c1 g1Tuple
theorem cd_tuple : CallD X (.type "tuple") gTuple := cd1 call_tuple_of fun H0 av θ sd μ σ H dx x d Q R rx hg q => by
  by_cases hs : ∃ z, dx = .tup z
  · obtain ⟨z, rfl⟩ := hs
    cases hg
    obtain ⟨a, ys, rfl, t, r⟩ := rx
    exact ⟨a, ys, rfl, .inr ⟨t.sq, q.same R ⟨a, ys, rfl, t, r⟩ (rep_nl _)⟩⟩
  · have hg : ((lsAny μ dx).map fun ds => D.tup ds) = some d := by
      cases dx <;> first | exact hg | exact absurd ⟨_, rfl⟩ hs
    cases h : lsAny μ dx with
    | none => rw [h] at hg; cases hg
    | some es =>
      rw [h] at hg
      cases hg
      obtain ⟨a, ys, rfl, t, r⟩ := lsAny_at R rx h
      exact ⟨a, ys, rfl, .inl ⟨t, fun p hp => Asks.tup q R r hp⟩⟩
/-- list(x) -/
def g1List : Mem → D → Option D := fun μ d => (sqAny μ d).map fun ds => .new ds
def gList := c1 g1List
theorem cd_list : CallD X (.type "list") gList := cd1 call_list_of fun H0 av θ sd μ σ H dx x d Q R rx hg q => by
  have hg : ((sqAny μ dx).map fun ds => D.new ds) = some d := hg
  cases h : sqAny μ dx with
  | none => rw [h] at hg; cases hg
  | some es =>
    rw [h] at hg
    cases hg
    obtain ⟨a, ys, rfl, t, r⟩ := sqAny_at R rx h
    exact ⟨a, ys, rfl, t, fun p hp => Asks.lst q R r hp⟩
/-- max(i, j), min(i, j) -/
def gMax2 := c2 (gI0 fun i j => .int (if j > i then j else i))
def gMin2 := c2 (gI0 fun i j => .int (if j < i then j else i))
theorem gI0_some {g : Int → Int → D} {dx dy d : D} (h : gI0 g μ dx dy = some d) : ∃ i j, dx = .int i ∧ dy = .int j ∧ d = g i j := by
  cases dx with
  | int i =>
    cases dy with
    | int j => cases h; exact ⟨i, j, rfl, rfl, rfl⟩
    | _ => cases h
  | _ => cases h
theorem cd_max2 (hc : X.calm = true) : CallD X (.builtin "max") gMax2 := cd2 (call_max2 hc) fun H0 av θ sd μ σ H dx dy x y d Q R rx ry hg q => by
  obtain ⟨i, j, rfl, rfl, rfl⟩ := gI0_some hg
  have rx : x = .int i := rx
  have ry : y = .int j := ry
  subst rx; subst ry
  exact ⟨i, j, rfl, q.same R rfl (fun _ e => by cases e)⟩
theorem cd_min2 (hc : X.calm = true) : CallD X (.builtin "min") gMin2 := cd2 (call_min2 hc) fun H0 av θ sd μ σ H dx dy x y d Q R rx ry hg q => by
  obtain ⟨i, j, rfl, rfl, rfl⟩ := gI0_some hg
  have rx : x = .int i := rx
  have ry : y = .int j := ry
  subst rx; subst ry
  exact ⟨i, j, rfl, q.same R rfl (fun _ e => by cases e)⟩
/-- isinstance(x, T), T built-in -/
def tyName (μ : Mem) : D → Option String
  | .non => some "NoneType"
  | .bl _ => some "bool"
  | .int _ => some "int"
  | .str _ => some "str"
  | .tup _ => some "tuple"
  | d => (isLst μ d).map fun _ => "list"
theorem tyName_ok {d : D} {v : V} {T : String} (R : RS X.K X.mg H0 av θ sd μ σ H) (r : rep X.K X.mg H0 av θ H d v) (h : tyName μ d = some T) : TyX X.K H v (.type T) := by
  have lists : ∀ {d : D}, rep X.K X.mg H0 av θ H d v → ((isLst μ d).map fun _ => "list") = some T → TyX X.K H v (.type T) := fun {d} r h => by
    cases q : isLst μ d with
    | none => rw [q] at h; cases h
    | some ds =>
      rw [q] at h
      cases h
      obtain ⟨a, xs, rfl, t, _⟩ := lst_at R r q
      exact .base (.lst t)
  cases d with
  | non => cases h; cases r; exact .base .non
  | bl b => cases h; cases r; exact .base (.bl b)
  | int i => cases h; cases r; exact .base (.int i)
  | str s => cases h; cases r; exact .base (.str s)
  | tup ds =>
    cases h
    obtain ⟨a, xs, rfl, t, _⟩ := r
    rcases t with ⟨_, _, t | ⟨o, t⟩⟩ | ⟨o, its, n, ho, hc, _⟩
    · exact .base (.tup t)
    · exact .fTuple t
    · exact .kTuple ho hc
  | _ => exact lists r h
def g2Isi : Mem → D → D → Option D := fun μ d c => match c with
  | .ty T => (tyName μ d).bind fun t => (kitB t T).map fun b => .bl b
  | _ => none
def gIsi := c2 g2Isi
theorem cd_isi : CallD X (.builtin "isinstance") gIsi := cd2 call_isi fun H0 av θ sd μ σ H dx dy x y d Q R rx ry hg q => by
  cases dy with
  | ty T =>
    have ry : y = .ty T := ry
    subst ry
    have hg : ((tyName μ dx).bind fun t => (kitB t T).map fun b => D.bl b) = some d := hg
    cases h : tyName μ dx with
    | none => rw [h] at hg; cases hg
    | some t =>
      rw [h] at hg
      have hg : ((kitB t T).map fun b => D.bl b) = some d := hg
      cases h2 : kitB t T with
      | none => rw [h2] at hg; cases hg
      | some b =>
        rw [h2] at hg
        cases hg
        exact ⟨x, .ty T, .type t, .type T, b, rfl, .ty T, tyName_ok R rx h, kit_ty h2, q.same R rfl (fun _ e => by cases e)⟩
  | _ => cases hg
theorem pd_ty {x : Str} {T : String} {pos : Pos} (hg : Gl X x) (hm : X.mg x = none) (hv : bootBuiltins x = some (.type T)) (hn : x ≠ "__name__" := by decide) (hd : (x == ("__debug__" : Str)) = false := by decide) : PE X (.Name x pos) (tE X.K X.mg H0 W (eC (.ty T))) :=
  pd_c (pe_bltn (v := .ty T) hg hm hv rfl hn hd) (fun _ _ _ => rfl) (fun _ e => by cases e)
end
end DL
set_option Elab.async false
set_option linter.all false
set_option maxRecDepth 100000
/-! DL, part j: what is walked; stores by place; while. -/
namespace DL
open PySem PySem.Spec PyProof.Rows L2
section
variable {X : Cx} {K : PySem.W.Frag} {mg : Mg} {H0 : Hp} {W : WX} {av bv θ θ1 : List Addr} {sd : Sl} {μ : Mem} {σ : L2.St} {H H1 : Hp} {a b e : Expr} {f fa fb : EE} {ga : EA} {pos : Pos}
/-! ### iterators -/
theorem goes_later (g : Gr θ θ1 H H1) (hb : ∀ b ∈ bv, b ∈ av ∨ H b = none) : Goes av bv θ θ1 H H1 := fun a o n m h =>
  ⟨g.notin n h, fun q => (hb a q).elim m (fun z => by rw [h] at z; cases z), g.keep a o n h⟩
/-- whoever looks later still finds these items at a -/
def Later (K : PySem.W.Frag) (mg : Mg) (H0 : Hp) (av : List Addr) (S : PySem.W.Frag → Hp → Addr → List V → Prop) (a : Addr) (ds : List D) (chk : Mem → Prop) (θ : List Addr) (H : Hp) : Prop :=
  ∀ (bv θ1 : List Addr) (sd1 : Sl) (μ1 : Mem) (σ1 : L2.St) (H1 : Hp), Gr θ θ1 H H1 → (∀ b ∈ bv, b ∈ av ∨ H b = none) → RS K mg H0 bv θ1 sd1 μ1 σ1 H1 → chk μ1 → ∃ ys, S K H1 a ys ∧ repL K mg H0 bv θ1 H1 ds ys
/-- a list or tuple: its items, what has to stand -/
def srcD (μ : Mem) : D → Option (List D × (Mem → Prop))
  | .tup ds => some (ds, fun _ => True)
  | .ref n => match μ[n]? with
    | some (.lst ds) => some (ds, fun μ' => μ'[n]? = some (.lst ds))
    | _ => none
  | .lst ds => some (ds, fun _ => True)
  | .lck ds => some (ds, fun _ => True)
  | .fr ds => some (ds, fun _ => True)
  | .new ds => some (ds, fun _ => True)
  | _ => none
def isTupD : D → Bool
  | .tup _ => true
  | _ => false
theorem src_tup {d : D} {v : V} {ds : List D} {chk : Mem → Prop} (R : RS K mg H0 av θ sd μ σ H) (r : rep K mg H0 av θ H d v) (h : srcD μ d = some (ds, chk)) (ht : isTupD d = true) : chk μ ∧ ∃ a xs, v = .ref a ∧ SqT K H a xs ∧ Later K mg H0 av SqT a ds chk θ H := by
  cases d with
  | tup es =>
    cases h
    obtain ⟨a, xs, e, t, r⟩ := r
    exact ⟨trivial, a, xs, e, t.sq, fun bv θ1 sd1 μ1 σ1 H1 g hb R1 _ => ⟨xs, (t.tr (goes_later g hb)).sq, repL.tr (fun _ _ => g.get) (goes_later g hb) _ _ r⟩⟩
  | _ => cases ht
theorem src_lst {d : D} {v : V} {ds : List D} {chk : Mem → Prop} (R : RS K mg H0 av θ sd μ σ H) (r : rep K mg H0 av θ H d v) (h : srcD μ d = some (ds, chk)) (ht : isTupD d = false) :
    chk μ ∧ ∃ a xs, v = .ref a ∧ SqL K H a xs ∧ Later K mg H0 av SqL a ds chk θ H := by
  cases d with
  | tup es => cases ht
  | lst es =>
    cases h
    obtain ⟨a, xs, e, t, r⟩ := r
    exact ⟨trivial, a, xs, e, .inl (.inl (R.ex _ _ t)), fun bv θ1 sd1 μ1 σ1 H1 g hb R1 _ => ⟨xs, .inl (.inl (R1.ex _ _ t)), repL.tr (fun _ _ => g.get) (goes_later g hb) _ _ r⟩⟩
  | lck es =>
    cases h
    obtain ⟨a, xs, e, t, r⟩ := r
    exact ⟨trivial, a, xs, e, SqL.exh R.ex t, fun bv θ1 sd1 μ1 σ1 H1 g hb R1 _ => ⟨xs, SqL.exh R1.ex t, repL.tr (fun _ _ => g.get) (goes_later g hb) _ _ r⟩⟩
  | fr es =>
    cases h
    obtain ⟨a, xs, e, n, m, f, t, r⟩ := r
    exact ⟨trivial, a, xs, e, .inl (.inl t), fun bv θ1 sd1 μ1 σ1 H1 g hb R1 _ => ⟨xs, .inl (.inl (g.keep _ _ n t)), repL.tr (fun _ _ => g.get) (goes_later g hb) _ _ r⟩⟩
  | new es =>
    cases h
    obtain ⟨a, xs, e, n, m, f, t, r⟩ := r
    exact ⟨trivial, a, xs, e, .inl (.inl t), fun bv θ1 sd1 μ1 σ1 H1 g hb R1 _ => ⟨xs, .inl (.inl (g.keep _ _ n t)), repL.tr (fun _ _ => g.get) (goes_later g hb) _ _ r⟩⟩
  | ref n =>
    obtain ⟨a, e, hn⟩ := r
    have h : (match μ[n]? with
      | some (.lst ds) => some (ds, fun (μ' : Mem) => μ'[n]? = some (MO.lst ds))
      | _ => none) = some (ds, chk) := h
    cases hm : μ[n]? with
    | none => rw [hm] at h; cases h
    | some mo =>
      rw [hm] at h
      cases mo with
      | ins C fs => cases h
      | lst es =>
        cases h
        obtain ⟨xs, t, r⟩ := R.mem n _ a hm hn
        exact ⟨hm, a, xs, e, .inl (.inl t), fun bv θ1 sd1 μ1 σ1 H1 g hb R1 hc => by
          obtain ⟨ys, t1, r1⟩ := R1.mem n _ a hc (g.get hn)
          exact ⟨ys, .inl (.inl t1), r1⟩⟩
  | _ => cases h
theorem src_ok {d : D} {v : V} {ds : List D} {chk : Mem → Prop} (R : RS K mg H0 av θ sd μ σ H) (r : rep K mg H0 av θ H d v) (h : srcD μ d = some (ds, chk)) :
    chk μ ∧ ∃ a xs, v = .ref a ∧ ((SqL K H a xs ∧ Later K mg H0 av SqL a ds chk θ H) ∨ (SqT K H a xs ∧ Later K mg H0 av SqT a ds chk θ H)) := by
  cases ht : isTupD d with
  | true => obtain ⟨c, a, xs, e, t, l⟩ := src_tup R r h ht; exact ⟨c, a, xs, e, .inr ⟨t, l⟩⟩
  | false => obtain ⟨c, a, xs, e, t, l⟩ := src_lst R r h ht; exact ⟨c, a, xs, e, .inl ⟨t, l⟩⟩
def iSq (K : PySem.W.Frag) (tl : TE) : TI := fun σ H R => tl σ H fun x H1 => ∃ a, x = .ref a ∧ ((∃ xs, SqL K H1 a xs) ∧ R (Itl K a) H1 ∨ (∃ xs, SqT K H1 a xs) ∧ R (Itt K a) H1)
theorem pi_sq {tg l : Expr} {tl : TE} (hl : PE X l tl) : PI X tg l (iSq X.K tl) := by
  refine ⟨fun pins s σ H R I h => thn (hl.run pins s σ H _ I h) fun v s1 ⟨x, H1, I1, r1, a, e, q⟩ => ?_⟩
  subst e
  cases r1
  rcases q with ⟨⟨xs, hq⟩, q⟩ | ⟨⟨xs, hq⟩, q⟩
  · obtain ⟨ws, rv, p, _⟩ := I1.list hq
    refine wpAny_pyIter_list p.isList ⟨s1.heap.objs.size, [s1.heap.objs.size], _, _, H1, rfl, I1.kept (t' := s1.toks) fun b o z => Heap.get?_push_of_some _ z, turn_list a _, ⟨_, Heap.get?_push_size _ rfl, rfl, rfl⟩, fun b hb => ?_, q⟩
    rw [List.mem_singleton.mp hb]
    exact I1.fpOk (Nat.le_refl _) (I1.hok.fresh (Nat.le_refl _))
  · obtain ⟨ws, rv, p, _⟩ := I1.tuple hq
    refine wpAny_pyIter_tuple (show s1.heap.IsTuple a ws.toArray from p) ⟨s1.heap.objs.size, [s1.heap.objs.size], _, _, H1, rfl, I1.kept (t' := s1.toks) fun b o z => Heap.get?_push_of_some _ z, turn_tuple a _, ⟨_, Heap.get?_push_size _ rfl, rfl, rfl⟩, fun b hb => ?_, q⟩
    rw [List.mem_singleton.mp hb]
    exact I1.fpOk (Nat.le_refl _) (I1.hok.fresh (Nat.le_refl _))
theorem it_list {a : Addr} {ds : List D} {chk : Mem → Prop} (h : Later K mg H0 av SqL a ds chk θ H) : ItOk K mg H0 av (Itl K a) ds chk θ H := fun i bv θ1 sd1 μ1 σ1 H1 g hb R hc => by
  obtain ⟨ys, t, r⟩ := h bv θ1 sd1 μ1 σ1 H1 g hb R hc
  refine ⟨fun d hd => ?_, fun hi => ⟨ys, t, by rw [repL.length r]; exact hi⟩⟩
  obtain ⟨v, hv, rv⟩ := repL.get r hd
  refine ⟨⟨ys, v, t, hv⟩, fun x H2 ⟨e, hx⟩ => ?_⟩
  subst e
  have := hx ys t
  rw [hv] at this
  cases this
  exact ⟨Exh.refl _, rv⟩
theorem it_tup {a : Addr} {ds : List D} {chk : Mem → Prop} (h : Later K mg H0 av SqT a ds chk θ H) : ItOk K mg H0 av (Itt K a) ds chk θ H := fun i bv θ1 sd1 μ1 σ1 H1 g hb R hc => by
  obtain ⟨ys, t, r⟩ := h bv θ1 sd1 μ1 σ1 H1 g hb R hc
  refine ⟨fun d hd => ?_, fun hi => ⟨ys, t, by rw [repL.length r]; exact hi⟩⟩
  obtain ⟨v, hv, rv⟩ := repL.get r hd
  refine ⟨⟨ys, v, t, hv⟩, fun x H2 ⟨e, hx⟩ => ?_⟩
  subst e
  have := hx ys t
  rw [hv] at this
  cases this
  exact ⟨Exh.refl _, rv⟩
/-- a value, then what walks it -/
theorem PostI.val {R : It → Hp → Prop} {m : R3 D} {k : D → Mem → R3 (List D × (Mem → Prop))} {Q : VK} (P : PostI K mg H0 W av θ sd σ H R (bE m k))
    (h : ∀ (x : D) (μ1 : Mem) (y : V) (θ1 : List Addr) (H1 : Hp) (nv : List Addr), Gr θ θ1 H H1 → RS K mg H0 (nv ++ av) θ1 sd μ1 σ H1 → relD K mg H0 av θ1 H H1 nv x y → PostI K mg H0 W av θ1 sd σ H1 R (k x μ1) → Q y H1) :
    Post K mg H0 W (relD K mg H0) av θ sd σ H Q m := by
  match m, P with
  | some (.ok x, μ'), P =>
    refine fun y θ' H' nv g R1 r => h x μ' y θ' H' nv g R1 r ?_
    have P : PostI K mg H0 W av θ sd σ H R (k x μ') := P
    match h2 : k x μ', P with
    | some (.error e, μ2), P => exact fun cls dd θ2 H2 g2 R2 r2 => P cls dd θ2 H2 (g.trans g2) R2 r2
    | some (.ok (ds, chk), μ2), P => exact fun J θ2 H2 g2 R2 hc hJ => P J θ2 H2 (g.trans g2) R2 hc hJ
  | some (.error e, μ'), P => exact P
theorem PostI.vals {R : It → Hp → Prop} {m : R3 (List D)} {k : List D → Mem → R3 (List D × (Mem → Prop))} {Q : List V → Hp → Prop} (P : PostI K mg H0 W av θ sd σ H R (bE m k))
    (h : ∀ (x : List D) (μ1 : Mem) (y : List V) (θ1 : List Addr) (H1 : Hp) (nv : List Addr), Gr θ θ1 H H1 → RS K mg H0 (nv ++ av) θ1 sd μ1 σ H1 → repL K mg H0 av θ1 H1 x y → PostI K mg H0 W av θ1 sd σ H1 R (k x μ1) → Q y H1) :
    Post K mg H0 W (relA K mg H0) av θ sd σ H Q m := by
  match m, P with
  | some (.ok x, μ'), P =>
    refine fun y θ' H' nv g R1 r => h x μ' y θ' H' nv g R1 r ?_
    have P : PostI K mg H0 W av θ sd σ H R (k x μ') := P
    match h2 : k x μ', P with
    | some (.error e, μ2), P => exact fun cls dd θ2 H2 g2 R2 r2 => P cls dd θ2 H2 (g.trans g2) R2 r2
    | some (.ok (ds, chk), μ2), P => exact fun J θ2 H2 g2 R2 hc hJ => P J θ2 H2 (g.trans g2) R2 hc hJ
  | some (.error e, μ'), P => exact P
/-- for x in xs -/
def iSeq (f : EE) : IE := fun sd μ => bE (f sd μ) fun d μ1 => (srcD μ1 d).map fun z => (.ok z, μ1)
theorem pid_seq {tg l : Expr} (hl : PE X l (tE X.K X.mg H0 W f)) : PI X tg l (tI X.K X.mg H0 W (iSeq f)) := by
  refine wkI (pi_sq hl) fun σ H R ⟨av, θ, sd, μ, Rs, P⟩ => ⟨av, θ, sd, μ, Rs, P.val fun x μ1 y θ1 H1 nv g R1 r P1 => ?_⟩
  cases h : srcD μ1 x with
  | none => rw [h] at P1; exact P1.elim
  | some z =>
    obtain ⟨ds, chk⟩ := z
    rw [h] at P1
    obtain ⟨hc, a, xs, e, q⟩ := src_ok R1.plain r.1 h
    refine ⟨a, e, ?_⟩
    rcases q with ⟨t, l⟩ | ⟨t, l⟩
    · exact .inl ⟨⟨xs, t⟩, P1 _ θ1 H1 Gr.refl R1.plain hc (it_list l)⟩
    · exact .inr ⟨⟨xs, t⟩, P1 _ θ1 H1 Gr.refl R1.plain hc (it_tup l)⟩
/-- range -/
def rangeD (lo : Int) (n : Nat) : List D := (List.range n).map fun i => .int (lo + (i : Nat))
def one : List D → Option D
  | [d] => some d
  | _ => none
def two : List D → Option (D × D)
  | [d, e] => some (d, e)
  | _ => none
theorem one_rep : ∀ {ds : List D} {vs : List V} {d : D}, repL K mg H0 av θ H ds vs → one ds = some d → ∃ v, vs = [v] ∧ rep K mg H0 av θ H d v
  | [_], _, _, ⟨x, r, e, hx, hr⟩, h => by
    cases h
    have hr : r = [] := hr
    subst hr
    exact ⟨x, e, hx⟩
theorem two_rep {ds : List D} {vs : List V} {d e : D} (r : repL K mg H0 av θ H ds vs) (h : two ds = some (d, e)) : ∃ v w, vs = [v, w] ∧ rep K mg H0 av θ H d v ∧ rep K mg H0 av θ H e w := by
  cases ds with
  | nil => cases h
  | cons d1 ds =>
    cases ds with
    | nil => cases h
    | cons d2 ds =>
      cases ds with
      | cons d3 ds => cases h
      | nil =>
        obtain ⟨x, r1, e1, hx, y, r2, e2, hy, hr⟩ := r
        have hr : r2 = [] := hr
        injection h with h
        injection h with ha hb
        subst hr
        subst e2
        subst ha
        subst hb
        exact ⟨x, y, e1, hx, hy⟩
noncomputable def iR1 (f : EA) : IE := fun sd μ => bE (f sd μ) fun ds μ1 => (one ds).bind fun d => (intD d).bind fun n => when_ (-(2 ^ 62) ≤ n ∧ n < 2 ^ 62) (some (.ok (rangeD 0 n.toNat, fun _ => True), μ1))
noncomputable def iR2 (f : EA) : IE := fun sd μ => bE (f sd μ) fun ds μ1 => (two ds).bind fun d => (intD d.1).bind fun a => (intD d.2).bind fun n => when_ ((-(2 ^ 62) ≤ a ∧ a < 2 ^ 62) ∧ -(2 ^ 62) ≤ n ∧ n < 2 ^ 62) (some (.ok (rangeD a (n - a).toNat, fun _ => True), μ1))
theorem rangeD_length (lo : Int) (n : Nat) : (rangeD lo n).length = n := by simp [rangeD]
theorem it_range {lo : Int} {n : Nat} : ItOk K mg H0 av (Itr lo n) (rangeD lo n) (fun _ => True) θ H := fun i bv θ1 sd1 μ1 σ1 H1 g hb R hc => by
  refine ⟨fun d hd => ?_, fun hi => by rw [rangeD_length] at hi; exact hi⟩
  have hi : i < n := by
    have := (List.getElem?_eq_some_iff.mp hd).1
    rw [rangeD_length] at this
    exact this
  unfold rangeD at hd
  rw [List.getElem?_map, List.getElem?_range hi] at hd
  cases hd
  refine ⟨hi, fun x H2 ⟨e, hx⟩ => ?_⟩
  subst e
  exact ⟨Exh.refl _, hx⟩
theorem pid_range1 {tg : Expr} {p : Pos} (hm : X.mg "range" = none) (ha : PA X [a] (tA X.K X.mg H0 W ga)) (hg : Gl X "range" := by rfl) (hs : starEach [a] X.env = [(false, eval a X.env)] := by rfl) : PI X tg (.Call (.Name "range" p) [a] [] pos) (tI X.K X.mg H0 W (iR1 ga)) := by
  refine wkI (pi_range1 hg hm ha hs) fun σ H R ⟨av, θ, sd, μ, Rs, P⟩ => ⟨av, θ, sd, μ, Rs, P.vals fun ds μ1 vs θ1 H1 nv g R1 r P1 => ?_⟩
  cases h1 : one ds with
  | none => rw [h1] at P1; exact P1.elim
  | some d =>
    cases h2 : intD d with
    | none => rw [h1, Option.bind_some, h2] at P1; exact P1.elim
    | some n =>
      rw [h1, Option.bind_some, h2, Option.bind_some] at P1
      obtain ⟨v, e, hv⟩ := one_rep r h1
      rw [int_rep d v n hv h2] at e
      by_cases c : -(2 ^ 62) ≤ n ∧ n < 2 ^ 62
      · rw [when_t c] at P1
        exact ⟨n, e, c.1, c.2, P1 _ θ1 H1 Gr.refl R1.plain trivial it_range⟩
      · unfold when_ at P1; rw [if_neg c] at P1; exact P1.elim
theorem pid_range2 {tg : Expr} {p : Pos} (hm : X.mg "range" = none) (ha : PA X [a, b] (tA X.K X.mg H0 W ga)) (hg : Gl X "range" := by rfl) (hs : starEach [a, b] X.env = [(false, eval a X.env), (false, eval b X.env)] := by rfl) (hs2 : starEach [b] X.env = [(false, eval b X.env)] := by rfl) :
    PI X tg (.Call (.Name "range" p) [a, b] [] pos) (tI X.K X.mg H0 W (iR2 ga)) := by
  refine wkI (pi_range2 hg hm ha hs hs2) fun σ H R ⟨av, θ, sd, μ, Rs, P⟩ => ⟨av, θ, sd, μ, Rs, P.vals fun ds μ1 vs θ1 H1 nv g R1 r P1 => ?_⟩
  cases h1 : two ds with
  | none => rw [h1] at P1; exact P1.elim
  | some d =>
    obtain ⟨d1, d2⟩ := d
    rw [h1, Option.bind_some] at P1
    cases h2 : intD d1 with
    | none => rw [show intD (d1, d2).1 = none from h2] at P1; exact P1.elim
    | some m =>
      rw [show intD (d1, d2).1 = some m from h2, Option.bind_some] at P1
      cases h3 : intD d2 with
      | none => rw [show intD (d1, d2).2 = none from h3] at P1; exact P1.elim
      | some n =>
        rw [show intD (d1, d2).2 = some n from h3, Option.bind_some] at P1
        obtain ⟨v, w, e, hv, hw⟩ := two_rep r h1
        rw [int_rep d1 v m hv h2, int_rep d2 w n hw h3] at e
        by_cases c : (-(2 ^ 62) ≤ m ∧ m < 2 ^ 62) ∧ -(2 ^ 62) ≤ n ∧ n < 2 ^ 62
        · rw [when_t c] at P1
          exact ⟨m, n, e, ⟨c.1.1, c.1.2, c.2.1, c.2.2⟩, P1 _ θ1 H1 Gr.refl R1.plain trivial it_range⟩
        · unfold when_ at P1; rw [if_neg c] at P1; exact P1.elim
/-- zip of two lists, of two tuples -/
def zipD (xs ys : List D) : List D := List.zipWith (fun x y => .tup [x, y]) xs ys
def iZip2 (f : EA) : IE := fun sd μ => bE (f sd μ) fun ds μ1 => (two ds).bind fun d => (srcD μ1 d.1).bind fun z => (srcD μ1 d.2).bind fun w => if isTupD d.1 = isTupD d.2 then some (.ok (zipD z.1 w.1, fun μ' => z.2 μ' ∧ w.2 μ'), μ1) else none
theorem zip_get {xs ys : List D} {i : Nat} {d : D} (h : (zipD xs ys)[i]? = some d) : ∃ x y, xs[i]? = some x ∧ ys[i]? = some y ∧ d = .tup [x, y] := by
  unfold zipD at h
  rw [List.getElem?_zipWith] at h
  cases h1 : xs[i]? with
  | none => rw [h1] at h; cases h
  | some x =>
    cases h2 : ys[i]? with
    | none => rw [h1, h2] at h; cases h
    | some y => rw [h1, h2] at h; cases h; exact ⟨x, y, rfl, rfl, rfl⟩
theorem pair_rep {x y : D} {u v : V} {T : Addr} (R : RS K mg H0 av θ sd μ σ H) (rx : rep K mg H0 av θ H x u) (ry : rep K mg H0 av θ H y v) (hT : H T = none) :
    Exh H (upd H T (.tup [u, v])) ∧ rep K mg H0 av θ (upd H T (.tup [u, v])) (.tup [x, y]) (.ref T) :=
  ⟨Exh.new hT, T, [u, v], rfl, .inl ⟨R.notin hT, R.notav hT, .inl upd_same⟩, u, [v], rfl, rep.gr (Gr.of_ex (Exh.new hT)) _ _ rx, v, [], rfl, rep.gr (Gr.of_ex (Exh.new hT)) _ _ ry, rfl⟩
theorem it_zipL {a b : Addr} {xs ys : List D} {c1 c2 : Mem → Prop} (h1 : Later K mg H0 av SqL a xs c1 θ H) (h2 : Later K mg H0 av SqL b ys c2 θ H) : ItOk K mg H0 av (Itz K a b) (zipD xs ys) (fun μ => c1 μ ∧ c2 μ) θ H := fun i bv θ1 sd1 μ1 σ1 H1 g hb R hc => by
  obtain ⟨us, t1, r1⟩ := h1 bv θ1 sd1 μ1 σ1 H1 g hb R hc.1
  obtain ⟨vs, t2, r2⟩ := h2 bv θ1 sd1 μ1 σ1 H1 g hb R hc.2
  refine ⟨fun d hd => ?_, fun hi => ⟨us, vs, t1, t2, ?_⟩⟩
  · obtain ⟨x, y, hx, hy, rfl⟩ := zip_get hd
    obtain ⟨u, hu, ru⟩ := repL.get r1 hx
    obtain ⟨v, hv, rv⟩ := repL.get r2 hy
    refine ⟨⟨us, vs, u, v, t1, t2, hu, hv⟩, fun z H2 ⟨T, p, q, ez, hT, eH, k1, k2⟩ => ?_⟩
    have e1 := k1 us t1
    have e2 := k2 vs t2
    rw [hu] at e1
    rw [hv] at e2
    cases e1
    cases e2
    rw [ez, eH]
    exact pair_rep R ru rv hT
  · have : (zipD xs ys).length = min us.length vs.length := by rw [repL.length r1, repL.length r2]; simp [zipD]
    omega
theorem it_zipT {a b : Addr} {xs ys : List D} {c1 c2 : Mem → Prop} (h1 : Later K mg H0 av SqT a xs c1 θ H) (h2 : Later K mg H0 av SqT b ys c2 θ H) : ItOk K mg H0 av (RZ.ItzT K a b) (zipD xs ys) (fun μ => c1 μ ∧ c2 μ) θ H := fun i bv θ1 sd1 μ1 σ1 H1 g hb R hc => by
  obtain ⟨us, t1, r1⟩ := h1 bv θ1 sd1 μ1 σ1 H1 g hb R hc.1
  obtain ⟨vs, t2, r2⟩ := h2 bv θ1 sd1 μ1 σ1 H1 g hb R hc.2
  refine ⟨fun d hd => ?_, fun hi => ⟨us, vs, t1, t2, ?_⟩⟩
  · obtain ⟨x, y, hx, hy, rfl⟩ := zip_get hd
    obtain ⟨u, hu, ru⟩ := repL.get r1 hx
    obtain ⟨v, hv, rv⟩ := repL.get r2 hy
    refine ⟨⟨us, vs, u, v, t1, t2, hu, hv⟩, fun z H2 ⟨T, p, q, ez, hT, eH, k1, k2⟩ => ?_⟩
    have e1 := k1 us t1
    have e2 := k2 vs t2
    rw [hu] at e1
    rw [hv] at e2
    cases e1
    cases e2
    rw [ez, eH]
    exact pair_rep R ru rv hT
  · have : (zipD xs ys).length = min us.length vs.length := by rw [repL.length r1, repL.length r2]; simp [zipD]
    omega
end
end DL
set_option Elab.async false
set_option linter.all false
set_option maxRecDepth 100000
/-! DL, part k: zip, stores by place, chains, truth, while. -/
namespace DL
open PySem PySem.Spec PyProof.Rows L2
section
variable {X : Cx} {K : PySem.W.Frag} {mg : Mg} {H0 : Hp} {W : WX} {av bv θ θ1 : List Addr} {sd : Sl} {μ : Mem} {σ : L2.St} {H H1 : Hp} {a b c e o i : Expr} {f fa fb fc fo fi : EE} {ga : EA} {t : ET} {fs : SS} {body : List Stmt} {pos : Pos}
theorem pid_zip {e e2 : Expr} {p tpos : Pos} {elts : List Expr} {kk : Nat} (hm : X.mg "zip" = none) (ha : PA X [e, e2] (tA X.K X.mg H0 W ga)) (hg : Gl X "zip" := by rfl)
    (hs : starEach [e, e2] X.env = (false, eval e X.env) :: starEach [e2] X.env := by rfl) (hpl : (backTo pos (starEach [e2] X.env)).any (·.1) = false := by rfl) :
    PI X (.Tuple elts kk tpos) (.Call (.Name "zip" p) [e, e2] [] pos) (tI X.K X.mg H0 W (iZip2 ga)) := by
  refine wkI (RZ.pi_zipA hg hm ha hs hpl) fun σ H R ⟨av, θ, sd, μ, Rs, P⟩ => ⟨av, θ, sd, μ, Rs, P.vals fun ds μ1 vs θ1 H1 nv g R1 r P1 => ?_⟩
  cases h1 : two ds with
  | none => rw [h1] at P1; exact P1.elim
  | some d =>
    obtain ⟨d1, d2⟩ := d
    rw [h1, Option.bind_some] at P1
    obtain ⟨v, w, e, hv, hw⟩ := two_rep r h1
    cases h2 : srcD μ1 d1 with
    | none => rw [show srcD μ1 (d1, d2).1 = none from h2] at P1; exact P1.elim
    | some z1 =>
      rw [show srcD μ1 (d1, d2).1 = some z1 from h2, Option.bind_some] at P1
      cases h3 : srcD μ1 d2 with
      | none => rw [show srcD μ1 (d1, d2).2 = none from h3] at P1; exact P1.elim
      | some z2 =>
        rw [show srcD μ1 (d1, d2).2 = some z2 from h3, Option.bind_some] at P1
        have P1 : PostI X.K X.mg H0 W av θ1 sd σ H1 R (if isTupD d1 = isTupD d2 then some (.ok (zipD z1.1 z2.1, fun μ' => z1.2 μ' ∧ z2.2 μ'), μ1) else none) := P1
        by_cases q : isTupD d1 = isTupD d2
        case neg => rw [if_neg q] at P1; exact P1.elim
        rw [if_pos q] at P1
        have R1 := R1.plain
        cases ht : isTupD d1 with
        | true =>
          obtain ⟨c1, a, xs, rfl, t1, l1⟩ := src_tup R1 hv h2 ht
          obtain ⟨c2, b, ys, rfl, t2, l2⟩ := src_tup R1 hw h3 (q ▸ ht)
          exact ⟨a, b, xs, ys, e, .inr ⟨t1, t2, P1 _ θ1 H1 Gr.refl R1 ⟨c1, c2⟩ (it_zipT l1 l2)⟩⟩
        | false =>
          obtain ⟨c1, a, xs, rfl, t1, l1⟩ := src_lst R1 hv h2 ht
          obtain ⟨c2, b, ys, rfl, t2, l2⟩ := src_lst R1 hw h3 (q ▸ ht)
          exact ⟨a, b, xs, ys, e, .inl ⟨t1, t2, P1 _ θ1 H1 Gr.refl R1 ⟨c1, c2⟩ (it_zipL l1 l2)⟩⟩

/-! ### xs[i] = v -/
def setM (μ : Mem) (x y d : D) : Option Mem := match x, y with
  | .ref n, .int k => match μ[n]? with
    | some (.lst ds) => if notNew d = true then (ixN ds.length k).map fun j => μ.set n (.lst (ds.set j d)) else none
    | _ => none
  | _, _ => none
theorem repL.set {d : D} {v : V} (rd : rep K mg H0 av θ H d v) : ∀ (j : Nat) {ds : List D} {xs : List V}, repL K mg H0 av θ H ds xs → repL K mg H0 av θ H (ds.set j d) (xs.set j v)
  | _, [], xs, h => by
    have h : xs = [] := h
    subst h
    exact rfl
  | 0, e :: ds, _, ⟨x, r, q, h, t⟩ => by subst q; exact ⟨v, r, rfl, rd, t⟩
  | j + 1, e :: ds, _, ⟨x, r, q, h, t⟩ => by subst q; exact ⟨x, r.set j v, rfl, h, repL.set rd j t⟩
theorem setM_ok {x y d : D} {u v w : V} {μ' : Mem} {Q : Hp → Prop} (R : RS K mg H0 av θ sd μ σ H) (rx : rep K mg H0 av θ H x u) (ry : rep K mg H0 av θ H y v) (rd : rep K mg H0 av θ H d w) (h : setM μ x y d = some μ')
    (q : ∀ H', Gr θ θ H H' → RS K mg H0 av θ sd μ' σ H' → Q H') : rSetL u v w H Q := by
  cases x with
  | ref n =>
    cases y with
    | int k =>
      obtain ⟨a, rfl, hn⟩ := rx
      have ry : v = .int k := ry
      subst ry
      have h : (match μ[n]? with
        | some (.lst ds) => if notNew d = true then (ixN ds.length k).map fun j => μ.set n (.lst (ds.set j d)) else none
        | _ => none) = some μ' := h
      cases hm : μ[n]? with
      | none => rw [hm] at h; cases h
      | some mo =>
        rw [hm] at h
        cases mo with
        | ins C fs => cases h
        | lst ds =>
          have h : (if notNew d = true then (ixN ds.length k).map fun j => μ.set n (.lst (ds.set j d)) else none) = some μ' := h
          by_cases hn0 : notNew d = true
          case neg => rw [if_neg hn0] at h; cases h
          rw [if_pos hn0] at h
          cases hj : ixN ds.length k with
          | none => rw [hj] at h; cases h
          | some j =>
            rw [hj] at h
            cases h
            obtain ⟨xs, t, r⟩ := R.mem n _ a hm hn
            refine ⟨a, xs, k, j, rfl, rfl, t, by rw [repL.length r]; exact hj, ?_⟩
            have ha : a ∈ θ := List.mem_of_getElem? hn
            have g0 : Gr θ θ H (upd H a (.lst (xs.set j w))) := ⟨List.prefix_refl _, fun b h m => absurd h m, fun b u m e => by rw [upd_ne (fun z => m (by rw [z]; exact ha))]; exact e⟩
            obtain ⟨g, R'⟩ := R.setO hn (mo := .lst (ds.set j d)) (o := .lst (xs.set j w)) ⟨_, upd_same, repL.gr g0 _ _ (repL.set rd j r)⟩
            exact q _ g R'
    | _ => cases h
  | _ => cases h
def gSub (fo fi : EE) : TgD := fun sd μ d => match fo sd μ with
  | some (.ok x, μ1) => match fi sd μ1 with
    | some (.ok y, μ2) => (setM μ2 x y d).map fun μ3 => (sd, μ3)
    | _ => none
  | _ => none
theorem pgd_sub (ho : PE X o (tE X.K X.mg H0 W fo)) (hi : PE X i (tE X.K X.mg H0 W fi))
    (ha : ∀ v, assign (.Subscript o i pos) X.env v = (do
      let ov ← holding [v] (eval o X.env)
      let iv ← holding [v, ov] (eval i X.env)
      standAt pos
      holding [v, ov, iv] (setItem ov iv v)
      release [v, ov, iv] []) := by intro _; rfl) : PG X (.Subscript o i pos) (tG X.K X.mg H0 [] (gSub fo fi)) := by
  refine wkG (pg_sub ho hi set_list ha) fun v σ H Q ⟨av, θ, sd, μ, d, R, r, P⟩ => ⟨av, θ, sd, μ, R, ?_⟩
  unfold gSub at P
  cases h1 : fo sd μ with
  | none => rw [h1] at P; exact P.elim
  | some z =>
    obtain ⟨rx, μ1⟩ := z
    rw [h1] at P
    cases rx with
    | error x => exact P.elim
    | ok x =>
      intro u θ1 H1 nv g1 R1 r1
      refine ⟨av, θ1, sd, μ1, R1.plain, ?_⟩
      simp only at P
      cases h2 : fi sd μ1 with
      | none => rw [h2] at P; exact P.elim
      | some z =>
        obtain ⟨ry, μ2⟩ := z
        rw [h2] at P
        cases ry with
        | error y => exact P.elim
        | ok y =>
          intro w θ2 H2 nw g2 R2 r2
          simp only at P
          cases h3 : setM μ2 x y d with
          | none => rw [h3] at P; exact P.elim
          | some μ3 =>
            rw [h3] at P
            have g12 := g1.trans g2
            exact setM_ok R2.plain (repG g2 r1.1) r2.1 (repG g12 r) h3 fun H' g R' => P σ θ2 H' (g12.trans g) R' rfl fun _ _ => rfl

/-! ### x op= e, xs[i] op= e -/
def sAug (j : Nat) (g : Mem → D → D → Option D) (f : EE) : SS := fun sd μ => match sd[j]? with
  | some (some x) => bS (f sd μ) sd fun y μ1 => match g μ1 x y with
    | some (.new _) => none
    | some d => some (.nx, sd.set j (some d), μ1)
    | none => none
  | _ => none
theorem ps_augN (j : Nat) {x : Str} {op : Operator} {g : Mem → D → D → Option D} {pos' : Pos} (hN : X.N.Nodup) (ho : OpD X (inplaceOp op) g) (he : PE X e (tE X.K X.mg H0 W f)) (hi : X.N[j]? = some x := by rfl) (hx : Loc X.env.scope x := by first | exact Or.inl rfl | exact Or.inr rfl)
    (hf : X.fn x = true ∨ X.env.scope.names.lookup x = some .local := by first | exact .inl rfl | exact .inr rfl) : PS X (.AugAssign (.Name x pos') op e pos) (tS X.K X.mg H0 W (sAug j g f)) := by
  obtain ⟨r, hr, k⟩ := ho H0
  refine wkS (ps_aug hN hi hx he hr hf) fun E σ H ⟨av, θ, sd, μ, R, P⟩ => ?_
  unfold sAug at P
  cases hj : sd[j]? with
  | none => rw [hj] at P; exact P.elim
  | some od =>
    cases od with
    | none => rw [hj] at P; exact P.elim
    | some d0 =>
      rw [hj] at P
      obtain ⟨v, hv, rv⟩ := R.sl.2 j d0 hj
      refine ⟨v, hv, av, θ, sd, μ, R, PostS.val R P fun y μ1 w θ1 H1 nv g1 R1 r1 P1 => ?_⟩
      cases hg : g μ1 d0 y with
      | none => simp only [hg] at P1; exact P1.elim
      | some d =>
        simp only [hg] at P1
        refine k av θ1 sd μ1 σ H1 d0 y v w d _ R1.plain (repG g1 rv) r1.1 hg fun z H' nw e R2 r2 => ?_
        have P1 : PostS X.K X.mg H0 W av θ1 H1 E (some (.nx, sd.set j (some d), μ1)) := by cases d <;> first | exact P1 | exact P1.elim
        exact P1 _ θ1 H' (Gr.of_ex e) (R2.plain.set j r2.1)
/-- a place from 0 on -/
def posI : D → Bool
  | .int i => decide (0 ≤ i)
  | _ => false
def sAugS (fo fi : EE) (g : Mem → D → D → Option D) (f : EE) : SS := fun sd μ => bS (fo sd μ) sd fun x μ1 => bS (fi sd μ1) sd fun y μ2 => match (if posI y = true then gIxL μ2 x y else none) with
  | none => none
  | some old => bS (f sd μ2) sd fun z μ3 => match g μ3 old z with
    | none => none
    | some d => (setM μ3 x y d).map fun μ4 => (.nx, sd, μ4)
def rGetL (K : PySem.W.Frag) : R2 := fun x y H Q => ∃ p xs i v, x = .ref p ∧ y = .int i ∧ SqL K H p xs ∧ L2.atI xs i = some v ∧ 0 ≤ i ∧ Q v H
theorem opr_getL : OpR X getItem (rGetL X.K) := by
  intro pins s σ H x y v u Q I rx ry h
  obtain ⟨p, xs, j, z, rfl, rfl, hq, he, h0, q⟩ := h
  cases rx
  obtain ⟨t, rfl⟩ := ry
  obtain ⟨ws, r, pl, hz⟩ := I.list hq
  obtain ⟨m, h1, h2, h3, h4, h5⟩ := atI_get he
  obtain ⟨w, ew, rw'⟩ := r.get h2
  have hl := r.length
  have hn := line63
  have hj : j.toNat = m := by
    rw [seqIndex_of h0 h5] at h1
    exact Option.some.inj h1
  exact wpAny_getItem_list pl.isList h0 (by omega) (by rw [hj]; simpa using ew) ⟨z, H, I, rw', q⟩
theorem rGet_ok {x y d : D} {u v : V} {Q : VK} (R : RS X.K X.mg H0 av θ sd μ σ H) (rx : rep X.K X.mg H0 av θ H x u) (ry : rep X.K X.mg H0 av θ H y v) (h : gIxL μ x y = some d) (h0 : ∀ i, y = .int i → 0 ≤ i) (q : ∀ w, rep X.K X.mg H0 av θ H d w → Q w H) : rGetL X.K u v H Q := by
  cases y with
  | int i =>
    have h : ((lsAny μ x).bind fun ds => itemD (L2.atI ds i)) = some d := h
    cases h1 : lsAny μ x with
    | none => rw [h1] at h; cases h
    | some ds =>
      rw [h1] at h
      obtain ⟨h2, hn⟩ := itemD_some h
      obtain ⟨a, xs, e, t, r⟩ := lsAny_at R rx h1
      obtain ⟨w, hw, rw'⟩ := repL.atI r h2
      exact ⟨a, xs, i, w, e, ry, t, hw, h0 i rfl, q w rw'⟩
  | _ => cases h
theorem ps_augI {op : Operator} {g : Mem → D → D → Option D} {tpos : Pos} (hop : OpD X (inplaceOp op) g) (ho : PE X o (tE X.K X.mg H0 W fo)) (hi : PE X i (tE X.K X.mg H0 W fi)) (he : PE X e (tE X.K X.mg H0 W f))
    (ha : ∀ ov iv new, augStore i ov iv new = (do holding [new, ov, iv] (setItem ov iv new); release [new, ov, iv] []; pure .next) := by intros; rfl) : PS X (.AugAssign (.Subscript o i tpos) op e pos) (tS X.K X.mg H0 W (sAugS fo fi g f)) := by
  obtain ⟨r, hr, k⟩ := hop H0
  refine wkS (ps_augS ho hi opr_getL he hr set_list ha) fun E σ H ⟨av, θ, sd, μ, R, P⟩ => ⟨av, θ, sd, μ, R, PostS.val R P fun x μ1 u θ1 H1 nv g1 R1 r1 P1 => ?_⟩
  refine ⟨av, θ1, sd, μ1, R1.plain, PostS.val R1.plain P1 fun y μ2 v θ2 H2 nw g2 R2 r2 P2 => ?_⟩
  have R2 := R2.plain
  cases h : (if posI y = true then gIxL μ2 x y else none) with
  | none => simp only [h] at P2; exact P2.elim
  | some old =>
    simp only [h] at P2
    by_cases hp : posI y = true
    case neg => rw [if_neg hp] at h; cases h
    rw [if_pos hp] at h
    refine rGet_ok R2 (repG g2 r1.1) r2.1 h (fun i e => by subst e; exact of_decide_eq_true hp) fun w rw' => ?_
    refine ⟨av, θ2, sd, μ2, R2, PostS.val R2 P2 fun z μ3 q θ3 H3 nu g3 R3 r3 P3 => ?_⟩
    have R3 := R3.plain
    cases hg : g μ3 old z with
    | none => simp only [hg] at P3; exact P3.elim
    | some d =>
      simp only [hg] at P3
      refine k av θ3 sd μ3 σ H3 old z w q d _ R3 (repG g3 rw') r3.1 hg fun nd H' nx ex R4 r4 => ?_
      cases hs : setM μ3 x y d with
      | none => rw [hs] at P3; exact P3.elim
      | some μ4 =>
        rw [hs] at P3
        have g4 := Gr.of_ex (θ := θ3) ex
        exact setM_ok R4.plain (repG g4 (repG g3 (repG g2 r1.1))) (repG g4 (repG g3 r2.1)) r4.1 hs fun H5 g5 R5 => P3 σ θ3 H5 (g4.trans g5) R5
end
end DL
set_option Elab.async false
set_option linter.all false
set_option maxRecDepth 100000
/-! DL, part l: name = [..], truth, chains; a def by the head's facts; a law's end. -/
namespace DL
open PySem PySem.Spec PyProof.Rows L2
section
variable {X : Cx} {K : PySem.W.Frag} {mg : Mg} {H0 : Hp} {W : WX} {av bv θ θ1 : List Addr} {sd : Sl} {μ : Mem} {σ : L2.St} {H H1 : Hp} {a b c e o i : Expr} {f fa fb fc fo fi : EE} {ga : EA} {t : ET} {fs : SS} {body : List Stmt} {pos : Pos}
/-- y = [..] -/
theorem ps_assignLc (j : Nat) {y : Str} {py : Pos} {elt tg iter : Expr} {ifs : List Expr} {scope : Scope} {own : List (Str × Nat)} {spos : Pos} {fi : IE} {is : List Nat} {g : TgD} {q : ET} (hc : X.calm = true) (hN : X.N.Nodup) (hi : PI X tg iter (tI X.K X.mg H0 W fi)) (ok : BlkOk X.N X.env.scope scope own)
    (hg : ∀ (s : Shared) (H : Hp) (C : Addr) (cl : List (Str × Addr)) (fp : List Addr), PG (X.blk s H scope (compEnvC scope cl C X.env) fp) tg (tG X.K X.mg H0 is g)) (his : ∀ i ∈ is, i ∈ own.map (·.2))
    (ht : ∀ (s : Shared) (H : Hp) (C : Addr) (cl : List (Str × Addr)) (fp : List Addr), PTs (X.blk s H scope (compEnvC scope cl C X.env) fp) ifs (tT X.K X.mg H0 WF q))
    (he : ∀ (s : Shared) (H : Hp) (C : Addr) (cl : List (Str × Addr)) (fp : List Addr), PE (X.blk s H scope (compEnvC scope cl C X.env) fp) elt (tE X.K X.mg H0 WF f))
    (hsw : swapsWith (.ListComp elt [⟨tg, iter, ifs, 0⟩] scope pos) (some (.Name y py)) spos.line X.env = pure true) (hy : X.N[j]? = some y := by rfl) (hyl : X.env.scope.names.lookup y = some .local := by rfl) (hs : ∀ x, foldedSetIterable iter X.env x = pure x := by intro _; rfl) :
    PS X (.Assign [.Name y py] (.ListComp elt [⟨tg, iter, ifs, 0⟩] scope pos) spos) (tS X.K X.mg H0 W (sAsg (eOwn (eLc fi g q f (own.map (·.2)))) (gD j))) := by
  refine wkS (ps_setLc hc hN hy hyl hsw hi ok hg ht he hs) fun E σ H ⟨av, θ, sd, μ, R, P⟩ => lc_read his (own_read ⟨av, θ, sd, μ, R, P.val R fun x μ1 y θ1 H1 nv g R1 r P1 => ?_⟩)
  have P1 : PostS X.K X.mg H0 W av θ1 H1 E ((gD j sd μ1 x).map fun z => (.nx, z.1, z.2)) := P1
  have P2 : PostS X.K X.mg H0 W av θ1 H1 E (some (.nx, sd.set j (some x), μ1)) := by cases x <;> first | exact P1 | exact P1.elim
  exact P2 _ θ1 H1 Gr.refl (R1.plain.set j r.1)

/-! ### truth of any value -/
def truD (μ : Mem) : D → Option Bool
  | .non => some false
  | .bl b => some b
  | .int i => some (i != 0)
  | .str z => if z.length ≤ sizeLine then some ((z.length : Int) != 0) else none
  | d => (sqAny μ d).map fun ds => !ds.isEmpty
theorem repL.isEmpty {ds : List D} {xs : List V} (r : repL K mg H0 av θ H ds xs) : xs.isEmpty = ds.isEmpty := by
  cases ds with
  | nil =>
    have r : xs = [] := r
    subst r
    rfl
  | cons d ds => obtain ⟨x, rr, e, _, _⟩ := r; subst e; rfl
theorem tru_rep {d : D} {v : V} {k : Bool} (R : RS X.K X.mg H0 av θ sd μ σ H) (r : rep X.K X.mg H0 av θ H d v) (h : truD μ d = some k) : TruV X.K v H k := by
  have sq : ∀ {d : D}, rep X.K X.mg H0 av θ H d v → ((sqAny μ d).map fun ds => !ds.isEmpty) = some k → TruV X.K v H k := fun {d} r h => by
    cases q : sqAny μ d with
    | none => rw [q] at h; cases h
    | some ds =>
      rw [q] at h
      cases h
      obtain ⟨a, xs, rfl, t, r⟩ := sqAny_at R r q
      exact t.elim (fun t => .inl ⟨xs, t, by rw [repL.isEmpty r]⟩) (fun t => .inr (.inl ⟨xs, t, by rw [repL.isEmpty r]⟩))
  cases d with
  | non => cases h; cases r; rfl
  | bl b => cases h; cases r; rfl
  | int i => cases h; cases r; rfl
  | str z =>
    have h : (if z.length ≤ sizeLine then some ((z.length : Int) != 0) else none) = some k := h
    split at h
    · rename_i hz
      cases h
      cases r
      exact ⟨hz, rfl⟩
    · cases h
  | _ => exact sq r h
def qTru (f : EE) : ET := fun sd μ => bE (f sd μ) fun x μ1 => (truD μ1 x).map fun b => (.ok b, μ1)
theorem pq_tru (ha : PE X a (tE X.K X.mg H0 W fa)) (he : ∀ whole, isTrue a X.env whole = (do let v ← whole; standAt a.pos; holding [v] (truthy v)) := by intro _; rfl) : PT X a (tT X.K X.mg H0 W (qTru fa)) := by
  refine wkT (pt_truth ha he) fun σ H Q ⟨av, θ, sd, μ, R, P⟩ => ⟨av, θ, sd, μ, R, P.bind antiB fun x μ1 v θ1 H1 nv g1 R1 r1 P1 => ?_⟩
  cases h : truD μ1 x with
  | none => rw [h] at P1; exact P1.elim
  | some k =>
    rw [h] at P1
    exact ⟨k, tru_rep R1.plain r1.1 h, P1 k θ1 H1 [] Gr.refl R1.plain rfl⟩

/-! ### a < b < c -/
def eChain (g1 g2 : Mem → D → D → Option D) (fa fb fc : EE) : EE := fun sd μ => bE (fa sd μ) fun x μ1 => bE (fb sd μ1) fun y μ2 => (g1 μ2 x y).bind fun r => (boolD r).bind fun k => if k = true then bE (fc sd μ2) fun z μ3 => (g2 μ3 y z).map fun d => (.ok d, μ3) else some (.ok (.bl false), μ2)
theorem pd_chain {op op' : CmpOp} {g1 g2 : Mem → D → D → Option D} (ho : OpD X (compareOp op) g1) (ho' : OpD X (compareOp op') g2) (ha : PE X a (tE X.K X.mg H0 W fa)) (hb : PE X b (tE X.K X.mg H0 W fb)) (hc : PE X c (tE X.K X.mg H0 W fc))
    (hm : lastMarks [op, op'] [b, c] = false := by with_unfolding_all rfl) : PE X (.Compare a [op, op'] [b, c] pos) (tE X.K X.mg H0 W (eChain g1 g2 fa fb fc)) := by
  obtain ⟨r, hr, k⟩ := ho H0
  obtain ⟨r', hr', k'⟩ := ho' H0
  refine wkE (pe_chain hr hr' ha hb hc hm) fun σ H Q ⟨av, θ, sd, μ, R, P⟩ => ⟨av, θ, sd, μ, R, P.bind antiD fun x μ1 v θ1 H1 nv g1' R1 r1 P1 => ?_⟩
  refine ⟨av, θ1, sd, μ1, R1.plain, P1.bind antiD fun y μ2 w θ2 H2 nw g2' R2 r2 P2 => ?_⟩
  cases h : g1 μ2 x y with
  | none => rw [h] at P2; exact P2.elim
  | some d =>
    rw [h] at P2
    refine k av θ2 sd μ2 σ H2 x y v w d _ R2.plain (repG g2' r1.1) r2.1 h fun u H' nu e R3 r3 => ?_
    cases d with
    | bl q =>
      refine ⟨q, r3.1, ?_⟩
      have P2 : Post X.K X.mg H0 W (relD X.K X.mg H0) av θ2 sd σ H2 Q (if q = true then bE (fc sd μ2) fun z μ3 => (g2 μ3 y z).map fun d => (.ok d, μ3) else some (.ok (.bl false), μ2)) := P2
      have P3 := P2.rebase antiD (Gr.of_ex e) R3.plain
      cases q with
      | false => exact P3 (.bl false) θ2 H' [] Gr.refl R3.plain ⟨rfl, fun _ e => by cases e⟩
      | true =>
        refine ⟨av, θ2, sd, μ2, R3.plain, P3.bind antiD fun z μ4 w' θ4 H4 nw4 g4 R4 r4 P4 => ?_⟩
        obtain ⟨d, hd, qq⟩ := P4.ask
        exact k' av θ4 sd μ4 σ H4 y z w w' d Q R4.plain (repG ((Gr.of_ex e).trans g4) r2.1) r4.1 hd qq
    | _ => exact P2.elim
theorem pq_chain {op op' : CmpOp} {g1 g2 : Mem → D → D → Option D} (ho : OpD X (compareOp op) g1) (ho' : OpD X (compareOp op') g2) (ha : PE X a (tE X.K X.mg H0 W fa)) (hb : PE X b (tE X.K X.mg H0 W fb)) (hc : PE X c (tE X.K X.mg H0 W fc))
    (hm : lastMarks [op, op'] [b, c] = false := by with_unfolding_all rfl) : PT X (.Compare a [op, op'] [b, c] pos) (tT X.K X.mg H0 W (qB (eChain g1 g2 fa fb fc))) := by
  obtain ⟨r, hr, k⟩ := ho H0
  obtain ⟨r', hr', k'⟩ := ho' H0
  refine wkT (pt_chain hr hr' ha hb hc hm) fun σ H Q ⟨av, θ, sd, μ, R, P⟩ => ?_
  have bb : ∀ {α β γ : Type} (m : R3 α) (k : α → Mem → R3 β) (j : β → Mem → R3 γ), bE (bE m k) j = bE m fun x μ => bE (k x μ) j := by
    intro α β γ m k j
    cases m with
    | none => rfl
    | some z => obtain ⟨r, m⟩ := z; cases r <;> rfl
  unfold qB eChain at P
  rw [bb] at P
  refine ⟨av, θ, sd, μ, R, P.bind antiB fun x μ1 v θ1 H1 nv g1' R1 r1 P1 => ?_⟩
  rw [bb] at P1
  refine ⟨av, θ1, sd, μ1, R1.plain, P1.bind antiB fun y μ2 w θ2 H2 nw g2' R2 r2 P2 => ?_⟩
  cases h : g1 μ2 x y with
  | none => rw [h] at P2; exact P2.elim
  | some d =>
    rw [h] at P2
    refine k av θ2 sd μ2 σ H2 x y v w d _ R2.plain (repG g2' r1.1) r2.1 h fun u H' nu e R3 r3 => ?_
    cases d with
    | bl q =>
      refine ⟨q, r3.1, ?_⟩
      cases q with
      | false =>
        have P2 : Post X.K X.mg H0 W relB av θ2 sd σ H2 Q (some (.ok false, μ2)) := P2
        exact ⟨false, rfl, P2 false θ2 H' [] (Gr.of_ex e) R3.plain rfl⟩
      | true =>
        have P2 : Post X.K X.mg H0 W relB av θ2 sd σ H2 Q (bE (bE (fc sd μ2) fun z μ3 => (g2 μ3 y z).map fun d => (.ok d, μ3)) fun x μ1 => match x with | .bl b => some (.ok b, μ1) | _ => none) := P2
        rw [bb] at P2
        have P3 := P2.rebase antiB (Gr.of_ex e) R3.plain
        refine ⟨av, θ2, sd, μ2, R3.plain, P3.bind antiB fun z μ4 w' θ4 H4 nw4 g4 R4 r4 P4 => ?_⟩
        cases h' : g2 μ4 y z with
        | none => rw [h'] at P4; exact P4.elim
        | some d =>
          rw [h'] at P4
          refine k' av θ4 sd μ4 σ H4 y z w w' d _ R4.plain (repG ((Gr.of_ex e).trans g4) r2.1) r4.1 h' fun u5 H5 nu5 e5 R5 r5 => ?_
          cases d with
          | bl q5 => exact ⟨q5, r5.1, P4 q5 θ4 H5 [] (Gr.of_ex e5) R5.plain rfl⟩
          | _ => exact P4.elim
    | _ => exact P2.elim
end
end DL
set_option Elab.async false
set_option linter.all false
set_option maxRecDepth 100000
/-! DL, part m: a def by the head's facts; a law's end. -/
namespace DL
open PySem PySem.Spec PyProof.Rows L2
theorem un65 {k : Nat} {A : Around} (r : Room k A) : A.units + 65 < cLine := by have := r.un; omega
section
variable {P : Program} {w : World} {K : PySem.W.Frag} {mg : Mg} {base : Heap}
abbrev FnP (K : PySem.W.Frag) (x : Str) (st : Stmt) (f : Addr) (fd : FuncData) : Prop := FunD K x x (defArgs st) (defBody st) (defScope st) [] [] f fd
/-- the body's derivation, ready at any frame -/
def Body (P : Program) (w : World) (K : PySem.W.Frag) (mg : Mg) (base : Heap) (k : Nat) (N : List Str) (qual : Str) (st : Stmt) (body : SS) : Prop :=
  ∀ (f : Addr) (cdv : Value) (A : Around) (outer : List Env) (s : Shared) (H : Hp) (E : XK), Room k (A.deeper (envOfC qual (defScope st) s.heap.objs.size f cdv)) →
    PSs (cxOf (L2.CX P w) P w K mg base N qual (defScope st) f cdv A outer s H E) (defBody st) (tS K mg H (fun cls d _ H' => E cls d H') body)
theorem funD_ok {x : Str} {st : Stmt} {f : Addr} {fd : FuncData} {N ps : List Str} {k : Nat} {body : SS} (F : FnP K x st f fd) (S : FnScope N ps (defScope st)) (hbody : Body P w K mg base k N x st body) :
    FnOk P w K mg base (L2.CX P w) (k + 1) f fd ps (spD K mg ps.length (runF N.length body)) := by
  obtain ⟨oc, od, dV, kV, doc, pm, an, cdv, ct, osl, rfl, lk, hcd, hD, _⟩ := F.ex
  rcases hD with ⟨_, rfl⟩ | ⟨e, _⟩
  · exact def_ok ⟨⟨oc, od, kV, doc, pm, an, cdv, ct, osl, rfl, lk, hcd⟩, F.kp⟩ S fun cdv A outer s H E hr => hbody f cdv A outer s H E hr
  · exact absurd rfl e
theorem fnD_mk {x : Str} {st : Stmt} {f : Addr} {fd : FuncData} {N ps : List Str} {k np : Nat} {body : SS} (F : FnP K x st f fd) (hmg : mg x = some (.ref f)) (S : FnScope N ps (defScope st)) (hbody : Body P w K mg base k N x st body)
    (hb : Binds K fd ps []) (hn : ps.length = np) : FnD P w K mg base x (k + 1) np (runF N.length body) := by
  subst hn
  exact ⟨f, fd, ps, hmg, F.kp, hb, rfl, funD_ok F S hbody⟩
/-- nothing is promised: a def at depth 0 -/
theorem fnD_none {x : Str} {st : Stmt} {f : Addr} {fd : FuncData} {N ps : List Str} {k np : Nat} (F : FnP K x st f fd) (hmg : mg x = some (.ref f)) (S : FnScope N ps (defScope st)) 
    (hb : Binds K fd ps []) (hn : ps.length = np) : FnD P w K mg base x (k + 1) np (fun _ => none) := by
  subst hn
  refine ⟨f, fd, ps, hmg, F.kp, hb, rfl, FunD.ok (CX := L2.CX P w) F S (fun vs H Q E h => ?_) (fun cdv A outer s H vs Q E hr h => ?_)⟩
  · obtain ⟨_, _, _, _, _, h⟩ := h
    exact h.elim
  · obtain ⟨_, _, _, _, _, h⟩ := h
    exact h.elim
end
/-- a law's script, its end -/
theorem law_sp {K : PySem.W.Frag} {mg : Mg} {H : Hp} {a : Addr} {ns : List Int} {m : Mir} (hS : SqL K H a (ns.map V.int)) (h : m [.lck (ns.map D.int)] = some (.ok (.bl true))) :
    spD K mg 1 m [.ref a] H (fun v _ => v = .bl true) fun _ _ _ => False := by
  have key : ∀ ns : List Int, repL K mg H [] [] H (ns.map D.int) (ns.map V.int) := fun ns => by
    induction ns with
    | nil => rfl
    | cons n ns ih => exact ⟨_, _, rfl, rfl, ih⟩
  refine ⟨[], [.lck (ns.map D.int)], fun a h => by simp at h, ⟨_, _, rfl, ⟨a, _, rfl, hS, key ns⟩, rfl⟩, rfl, ?_⟩
  rw [h]
  exact fun v H' _ r => r.2.1
theorem none_out {P : Program} {w : World} (H : Hp) (s : Shared) (e : Value) (s' : Shared) : L2.CX P w [] H s (fun _ _ _ => False) e s' → False := fun h => by
  obtain ⟨_, _, _, _, _, _, _, _, _, _, _, _, z⟩ := h
  exact z
/-- a law whose defs may let exceptions out: its end -/
theorem law_end {l : PySem.W.OpenLaw} {n lv : Nat} {qq : Program} {lo : List Str} {P1 : (Str → Option Value) → Heap → Prop} {P2 : World → Heap → Prop} {dr : DefRec} {par : Str}
    (h1 : l.most = some n) (h2 : n ≤ sizeLine) (h3 : dr.params.defaults = []) (h4 : Room lv callerA)
    (get : ∀ (u : World) (gl : Str → Option Value) (ad : Addr) (hp : Heap), P2 u hp → hp.Ns mainGlobals gl → gl dr.name = some (.ref ad) →
      ∃ (fr : PySem.W.Frag) (data : FuncData) (m : Mir), fr.In hp ∧ (∀ (sh : Shared) (z : Value), BindsTo sh data ⟨[z], []⟩ [(par, z)]) ∧
        (∀ ns : List Int, ns.length ≤ n → m [.lck (ns.map D.int)] = some (.ok (.bl true))) ∧
        ∀ bs : Heap, fr.In bs → bs.Ns mainGlobals gl → FnOk l.prog u fr gl bs (L2.CX l.prog u) lv ad data [par] (spD fr gl 1 m)) :
    PySem.W.WalkO qq lo P1 P2 l.row.toRowW dr [] (fun f vs => PySem.call f vs) := by
  refine Att.attach_call h1 h3 fun w s₀ s₁ mg mb fa o pm cd doc a vs ns G Y ho hd hcd hmg hobj hints hlen hg => ?_
  obtain ⟨K, fd, m, KX, hb, hm, hF⟩ := get w mg fa _ Y G.T.g hmg
  refine law_call KX G.T.g G.T.b G.T.builtins G.T.nolimit hg hobj hints (Nat.le_trans hlen h2) h4 hF hb (fun H hO hS => ?_) fun H e s' h => none_out H s₁ e s' h
  exact law_sp hS (hm ns hlen)
end DL
set_option Elab.async false
set_option linter.all false
set_option maxRecDepth 100000
/-! DL, part n: the mirrors worked out (no program in sight). -/
namespace DL
open PySem PySem.Spec PyProof.Rows L2
theorem le_size {n : Nat} (h : n ≤ 100000) : n ≤ sizeLine := Nat.le_trans h (by decide)
@[simp] theorem runF_def (n : Nat) (b : SS) (ds : List D) : runF n b ds = match b (ds.map some ++ List.replicate (n - ds.length) none) [] with
  | some (.ret d, _, _) => some (.ok d)
  | some (.nx, _, _) => some (.ok .non)
  | some (.exc e, _, _) => some (.error e)
  | _ => none := rfl
/-! ### comprehensions -/
theorem lcF_eq {α : Type} {chk : Mem → Prop} {t : TgD} {q : ET} {f : EE} {sd : Sl} {μ : Mem} {e : α → D} {b : α → Bool} {g : α → D} (hc : chk μ) : ∀ l : List α,
    (∀ a ∈ l, ∃ sd1, t sd μ (e a) = some (sd1, μ) ∧ q sd1 μ = some (.ok (b a), μ) ∧ (b a = true → f sd1 μ = some (.ok (g a), μ) ∧ notNew (g a) = true)) →
    lcF chk t q f sd (l.map e) μ = some (.ok ((l.filter b).map g), μ)
  | [], _ => rfl
  | a :: l, h => by
    obtain ⟨sd1, h1, h2, h3⟩ := h a List.mem_cons_self
    have ih := lcF_eq hc l fun x hx => h x (List.mem_cons_of_mem _ hx)
    rw [List.map_cons]
    unfold lcF
    rw [h1]
    simp only
    rw [h2]
    cases hb : b a with
    | false => simp only [hc, if_true]; rw [ih]; simp [hb]
    | true =>
      obtain ⟨h4, h5⟩ := h3 hb
      simp only
      rw [h4]
      simp only [h5, hc, and_self, if_true]
      rw [ih]
      simp [hb]
theorem eLc_eq {α : Type} {it : IE} {chk : Mem → Prop} {t : TgD} {q : ET} {f : EE} {vs : List Nat} {sd : Sl} {μ : Mem} {ds : List D} (l : List α) (e : α → D) (b : α → Bool) (g : α → D) (hit : it sd μ = some (.ok (ds, chk), μ)) (hds : ds = l.map e)
    (hl : l.length ≤ 100000) (hc : chk μ) (h : ∀ a ∈ l, ∃ sd1, t (wipeD sd vs) μ (e a) = some (sd1, μ) ∧ q sd1 μ = some (.ok (b a), μ) ∧ (b a = true → f sd1 μ = some (.ok (g a), μ) ∧ notNew (g a) = true)) :
    eLc it t q f vs sd μ = some (.ok (.new ((l.filter b).map g)), μ) := by
  unfold eLc
  rw [hit, hds]
  simp only
  rw [if_pos (by rw [List.length_map]; exact le_size hl), lcF_eq hc l h]
  rfl
/-- no test -/
theorem eLc_all {α : Type} {it : IE} {chk : Mem → Prop} {t : TgD} {f : EE} {vs : List Nat} {sd : Sl} {μ : Mem} {ds : List D} (l : List α) (e g : α → D) (hit : it sd μ = some (.ok (ds, chk), μ)) (hds : ds = l.map e)
    (hl : l.length ≤ 100000) (hc : chk μ) (h : ∀ a ∈ l, ∃ sd1, t (wipeD sd vs) μ (e a) = some (sd1, μ) ∧ f sd1 μ = some (.ok (g a), μ) ∧ notNew (g a) = true) :
    eLc it t qYes f vs sd μ = some (.ok (.new (l.map g)), μ) := by
  have z := eLc_eq (q := qYes) (f := f) l e (fun _ => true) g hit hds hl hc fun a ha => let ⟨sd1, h1, h2⟩ := h a ha; ⟨sd1, h1, rfl, fun _ => h2⟩
  rw [z, List.filter_eq_self.mpr (fun _ _ => rfl)]
/-! ### loops -/
/-- a loop whose body goes on, whatever it does, or hands back -/
theorem loop_inv {α : Type} {chk : Mem → Prop} {t : TgD} {b : SS} (e : α → D) (I : List α → Sl → Mem → Prop) (R : Flow → Prop) : ∀ (l done : List α) (sd : Sl) (μ : Mem), I done sd μ →
    (∀ done x rest sd μ, l = done ++ x :: rest → I done sd μ → False) ∨ True → 
    (∀ (dn : List α) (x : α) (sd : Sl) (μ : Mem), x ∈ l → I dn sd μ → ∃ sd1 μ1, t sd μ (e x) = some (sd1, μ1) ∧
      ((∃ sd2 μ2, b sd1 μ1 = some (.nx, sd2, μ2) ∧ chk μ2 ∧ I (dn ++ [x]) sd2 μ2) ∨ ∃ d sd2 μ2, b sd1 μ1 = some (.ret d, sd2, μ2) ∧ R (.ret d))) →
    (∃ sd2 μ2, loopF chk t b (l.map e) sd μ = some (.nx, sd2, μ2) ∧ I (done ++ l) sd2 μ2) ∨ ∃ d sd2 μ2, loopF chk t b (l.map e) sd μ = some (.ret d, sd2, μ2) ∧ R (.ret d)
  | [], done, sd, μ, h0, _, _ => .inl ⟨sd, μ, rfl, by rw [List.append_nil]; exact h0⟩
  | x :: l, done, sd, μ, h0, _, h => by
    obtain ⟨sd1, μ1, h1, h2⟩ := h done x sd μ List.mem_cons_self h0
    rw [List.map_cons]
    unfold loopF
    rw [h1]
    simp only
    rcases h2 with ⟨sd2, μ2, h3, h4, h5⟩ | ⟨d, sd2, μ2, h3, h4⟩
    · rw [h3]
      simp only [h4, if_true]
      have ih := loop_inv e I R l (done ++ [x]) sd2 μ2 h5 (.inr trivial) fun dn y sd μ hy => h dn y sd μ (List.mem_cons_of_mem _ hy)
      rw [List.append_assoc, List.singleton_append] at ih
      exact ih
    · rw [h3]
      exact .inr ⟨d, sd2, μ2, rfl, h4⟩
/-- a loop that always goes on -/
theorem loop_nx {α : Type} {chk : Mem → Prop} {t : TgD} {b : SS} (e : α → D) (I : List α → Sl → Mem → Prop) : ∀ (l done : List α) (sd : Sl) (μ : Mem), I done sd μ →
    (∀ (dn : List α) (x : α) (rest : List α) (sd : Sl) (μ : Mem), done ++ l = dn ++ x :: rest → I dn sd μ → ∃ sd1 μ1, t sd μ (e x) = some (sd1, μ1) ∧ ∃ sd2 μ2, b sd1 μ1 = some (.nx, sd2, μ2) ∧ chk μ2 ∧ I (dn ++ [x]) sd2 μ2) →
    ∃ sd2 μ2, loopF chk t b (l.map e) sd μ = some (.nx, sd2, μ2) ∧ I (done ++ l) sd2 μ2
  | [], done, sd, μ, h0, _ => ⟨sd, μ, rfl, by rw [List.append_nil]; exact h0⟩
  | x :: l, done, sd, μ, h0, h => by
    obtain ⟨sd1, μ1, h1, sd2, μ2, h3, h4, h5⟩ := h done x l sd μ rfl h0
    rw [List.map_cons]
    unfold loopF
    rw [h1]
    simp only
    rw [h3]
    simp only [h4, if_true]
    have ih := loop_nx e I l (done ++ [x]) sd2 μ2 h5 fun dn y rest sd μ hy => h dn y rest sd μ (by rw [← hy, List.append_assoc, List.singleton_append])
    rw [List.append_assoc, List.singleton_append] at ih
    exact ih
theorem sFor_of {it : IE} {t : TgD} {b : SS} {sd : Sl} {μ : Mem} {ds : List D} {chk : Mem → Prop} (h : it sd μ = some (.ok (ds, chk), μ)) : sFor it t b sd μ = loopF chk t b ds sd μ := by unfold sFor; rw [h]
theorem sSeq_of {f g : SS} {sd sd1 : Sl} {μ μ1 : Mem} (h : f sd μ = some (.nx, sd1, μ1)) : sSeq f g sd μ = g sd1 μ1 := by unfold sSeq; rw [h]
theorem sSeq_ret {f g : SS} {sd sd1 : Sl} {μ μ1 : Mem} {d : D} (h : f sd μ = some (.ret d, sd1, μ1)) : sSeq f g sd μ = some (.ret d, sd1, μ1) := by unfold sSeq; rw [h]
theorem sIf_t {t : ET} {a b : SS} {sd : Sl} {μ μ1 : Mem} {r : SR} (h : t sd μ = some (.ok true, μ1)) (q : a sd μ1 = r) : sIf t a b sd μ = r := by unfold sIf; rw [h]; exact q
theorem sIf_f {t : ET} {a b : SS} {sd : Sl} {μ μ1 : Mem} {r : SR} (h : t sd μ = some (.ok false, μ1)) (q : b sd μ1 = r) : sIf t a b sd μ = r := by unfold sIf; rw [h]; exact q
/-! ### zip, range -/
theorem range0 (n : Nat) : rangeD 0 n = (List.range n).map fun i : Nat => D.int i := by unfold rangeD; simp
theorem zip_map {α β : Type} (e : α → D) (e' : β → D) : ∀ (xs : List α) (ys : List β), zipD (xs.map e) (ys.map e') = (xs.zip ys).map fun p => D.tup [e p.1, e' p.2] := by
  intro xs
  induction xs with
  | nil => intro ys; rfl
  | cons x xs ih =>
    intro ys
    cases ys with
    | nil => rfl
    | cons y ys =>
      show D.tup [e x, e' y] :: zipD (xs.map e) (ys.map e') = _
      rw [ih ys]
      rfl
/-! ### == of plain things -/
theorem eq_of {μ : Mem} {n : Bool} {x y : D} {p q : PyData} (h1 : toPm μ x = some p) (h2 : toPm μ y = some q) (s1 : SeqAt.shaped p = true) (s2 : SeqAt.shaped q = true) : gEqD n μ x y = some (.bl (if n then !PyData.eqv p q else PyData.eqv p q)) := by
  unfold gEqD
  rw [h1, h2]
  simp [s1, s2]
theorem sh_int (i : Int) : SeqAt.shaped (.int i) = true := by simp [SeqAt.shaped, PyData.canLay0, PyData.depth]
@[simp] theorem eq_int (μ : Mem) (n : Bool) (i j : Int) : gEqD n μ (.int i) (.int j) = some (.bl (if n then !decide (i = j) else decide (i = j))) := by
  rw [eq_of (p := .int i) (q := .int j) rfl rfl (sh_int i) (sh_int j)]
  simp [PyData.eqv]
  rfl
@[simp] theorem eq_bl (μ : Mem) (n : Bool) (i j : Bool) : gEqD n μ (.bl i) (.bl j) = some (.bl (if n then !decide (i = j) else decide (i = j))) := by
  cases i <;> cases j <;> cases n <;> rfl
theorem gIx_int {μ : Mem} {x : D} {ds : List D} {i : Int} {d : D} (hx : x = .tup ds ∨ lsAny μ x = some ds) (hi : L2.atI ds i = some d) (hn : ∀ es, d ≠ .new es) : gIx μ x (.int i) = some d := by
  have hd : itemD (L2.atI ds i) = some d := by
    rw [hi]
    cases d <;> first | rfl | exact absurd rfl (hn _)
  rcases hx with rfl | hx
  · show (itemD (L2.atI ds i)).or _ = _
    rw [hd]
    rfl
  · unfold gIx
    have h1 : gIxL μ x (.int i) = some d := by
      show ((lsAny μ x).bind fun ds => itemD (L2.atI ds i)) = some d
      rw [hx]
      exact hd
    have h2 : gIxT μ x (.int i) = none := by
      cases x <;> first | rfl | (exact absurd hx (by simp [lsAny, isLst]))
    rw [h2, h1]
    rfl
end DL
namespace DL
open PySem PySem.Spec PyProof.Rows L2
@[simp] theorem sSeq_e (f g : SS) (sd : Sl) (μ : Mem) : sSeq f g sd μ = match f sd μ with
  | some (.nx, sd1, μ1) => g sd1 μ1
  | r => r := rfl
@[simp] theorem sSkip_e (sd : Sl) (μ : Mem) : sSkip sd μ = some (.nx, sd, μ) := rfl
@[simp] theorem sBreak_e (sd : Sl) (μ : Mem) : sBreak sd μ = some (.brk, sd, μ) := rfl
@[simp] theorem sCont_e (sd : Sl) (μ : Mem) : sCont sd μ = some (.ct, sd, μ) := rfl
@[simp] theorem sIf_e (t : ET) (a b : SS) (sd : Sl) (μ : Mem) : sIf t a b sd μ = match t sd μ with
  | none => none
  | some (.error e, μ1) => some (.exc e, sd, μ1)
  | some (.ok true, μ1) => a sd μ1
  | some (.ok false, μ1) => b sd μ1 := rfl
@[simp] theorem sAsg_e (f : EE) (t : TgD) (sd : Sl) (μ : Mem) : sAsg f t sd μ = match f sd μ with
  | none => none
  | some (.error e, μ1) => some (.exc e, sd, μ1)
  | some (.ok x, μ1) => match t sd μ1 x with
    | none => none
    | some (sd2, μ2) => some (.nx, sd2, μ2) := by
  unfold sAsg bS
  rcases f sd μ with _ | ⟨_ | x, m⟩ <;> try rfl
  dsimp only
  cases t sd m x <;> rfl
@[simp] theorem sRet_e (f : EE) (sd : Sl) (μ : Mem) : sRet f sd μ = match f sd μ with
  | none => none
  | some (.error e, μ1) => some (.exc e, sd, μ1)
  | some (.ok x, μ1) => match outD μ1 x with
    | none => none
    | some d => some (.ret d, sd, μ1) := by
  unfold sRet bS
  rcases f sd μ with _ | ⟨_ | x, m⟩ <;> try rfl
  dsimp only
  cases outD m x <;> rfl
@[simp] theorem sDrop_e (f : EE) (sd : Sl) (μ : Mem) : sDrop f sd μ = match f sd μ with
  | none => none
  | some (.error e, μ1) => some (.exc e, sd, μ1)
  | some (.ok x, μ1) => some (.nx, sd, μ1) := rfl
@[simp] theorem eC_e (d : D) (sd : Sl) (μ : Mem) : eC d sd μ = some (.ok d, μ) := rfl
@[simp] theorem eV_e (i : Nat) (sd : Sl) (μ : Mem) : eV i sd μ = match sd[i]? with
  | some (some (.new _)) => none
  | some (some d) => some (.ok d, μ)
  | _ => none := rfl
@[simp] theorem eOwn_e (f : EE) (sd : Sl) (μ : Mem) : eOwn f sd μ = match f sd μ with
  | some (.ok (.new ds), μ1) => some (.ok (.ref μ1.length), μ1 ++ [.lst ds])
  | r => r := rfl
@[simp] theorem eBin_e (g : Mem → D → D → Option D) (fa fb : EE) (sd : Sl) (μ : Mem) : eBin g fa fb sd μ = match fa sd μ with
  | none => none
  | some (.error e, μ1) => some (.error e, μ1)
  | some (.ok x, μ1) => match fb sd μ1 with
    | none => none
    | some (.error e, μ2) => some (.error e, μ2)
    | some (.ok y, μ2) => match g μ2 x y with
      | none => none
      | some d => some (.ok d, μ2) := by
  unfold eBin bE
  rcases fa sd μ with _ | ⟨_ | x, m⟩ <;> try rfl
  dsimp only
  rcases fb sd m with _ | ⟨_ | y, m2⟩ <;> try rfl
  dsimp only
  cases g m2 x y <;> rfl
@[simp] theorem eUn_e (g : Mem → D → Option D) (fa : EE) (sd : Sl) (μ : Mem) : eUn g fa sd μ = match fa sd μ with
  | none => none
  | some (.error e, μ1) => some (.error e, μ1)
  | some (.ok x, μ1) => match g μ1 x with
    | none => none
    | some d => some (.ok d, μ1) := by
  unfold eUn bE
  rcases fa sd μ with _ | ⟨_ | x, m⟩ <;> try rfl
  dsimp only
  cases g m x <;> rfl
@[simp] theorem eNil_e (sd : Sl) (μ : Mem) : eNil sd μ = some (.ok [], μ) := rfl
@[simp] theorem eCons_e (f : EE) (g : EA) (sd : Sl) (μ : Mem) : eCons f g sd μ = match f sd μ with
  | none => none
  | some (.error e, μ1) => some (.error e, μ1)
  | some (.ok x, μ1) => match g sd μ1 with
    | none => none
    | some (.error e, μ2) => some (.error e, μ2)
    | some (.ok ds, μ2) => some (.ok (x :: ds), μ2) := by
  unfold eCons bE
  rcases f sd μ with _ | ⟨_ | x, m⟩ <;> try rfl
  dsimp only
  rcases g sd m with _ | ⟨_ | y, m2⟩ <;> rfl
@[simp] theorem eTup_e (g : EA) (sd : Sl) (μ : Mem) : eTup g sd μ = match g sd μ with
  | none => none
  | some (.error e, μ1) => some (.error e, μ1)
  | some (.ok ds, μ1) => if ds.length ≤ sizeLine then some (.ok (.tup ds), μ1) else none := by
  unfold eTup bE
  rcases g sd μ with _ | ⟨_ | x, m⟩ <;> rfl
@[simp] theorem eLst_e (g : EA) (sd : Sl) (μ : Mem) : eLst g sd μ = match g sd μ with
  | none => none
  | some (.error e, μ1) => some (.error e, μ1)
  | some (.ok ds, μ1) => if ds.length ≤ sizeLine then some (.ok (.new ds), μ1) else none := by
  unfold eLst bE
  rcases g sd μ with _ | ⟨_ | x, m⟩ <;> rfl
@[simp] theorem eCB_e (gg : Mem → List D → Option D) (g : EA) (sd : Sl) (μ : Mem) : eCB gg g sd μ = match g sd μ with
  | none => none
  | some (.error e, μ1) => some (.error e, μ1)
  | some (.ok ds, μ1) => match gg μ1 ds with
    | none => none
    | some d => some (.ok d, μ1) := by
  unfold eCB bE
  rcases g sd μ with _ | ⟨_ | x, m⟩ <;> try rfl
  dsimp only
  cases gg m x <;> rfl
@[simp] theorem eIf_e (t : ET) (fa fb : EE) (sd : Sl) (μ : Mem) : eIf t fa fb sd μ = match t sd μ with
  | none => none
  | some (.error e, μ1) => some (.error e, μ1)
  | some (.ok true, μ1) => fa sd μ1
  | some (.ok false, μ1) => fb sd μ1 := by
  unfold eIf bE
  rcases t sd μ with _ | ⟨_ | x, m⟩ <;> try rfl
  cases x <;> rfl
@[simp] theorem eAnd_e (fa fb : EE) (sd : Sl) (μ : Mem) : eAnd fa fb sd μ = match fa sd μ with
  | some (.ok (.bl true), μ1) => fb sd μ1
  | some (.ok (.bl false), μ1) => some (.ok (.bl false), μ1)
  | some (.error e, μ1) => some (.error e, μ1)
  | _ => none := by
  unfold eAnd bE
  rcases fa sd μ with _ | ⟨_ | x, m⟩ <;> try rfl
  cases x <;> try rfl
  rename_i b; cases b <;> rfl
@[simp] theorem eOr_e (fa fb : EE) (sd : Sl) (μ : Mem) : eOr fa fb sd μ = match fa sd μ with
  | some (.ok (.bl true), μ1) => some (.ok (.bl true), μ1)
  | some (.ok (.bl false), μ1) => fb sd μ1
  | some (.error e, μ1) => some (.error e, μ1)
  | _ => none := by
  unfold eOr bE
  rcases fa sd μ with _ | ⟨_ | x, m⟩ <;> try rfl
  cases x <;> try rfl
  rename_i b; cases b <;> rfl
@[simp] theorem eNot_e (fa : EE) (sd : Sl) (μ : Mem) : eNot fa sd μ = match fa sd μ with
  | some (.ok (.bl b), μ1) => some (.ok (.bl (!b)), μ1)
  | some (.error e, μ1) => some (.error e, μ1)
  | _ => none := by
  unfold eNot bE
  rcases fa sd μ with _ | ⟨_ | x, m⟩ <;> try rfl
  cases x <;> rfl
@[simp] theorem qYes_e (sd : Sl) (μ : Mem) : qYes sd μ = some (.ok true, μ) := rfl
@[simp] theorem qB_e (fa : EE) (sd : Sl) (μ : Mem) : qB fa sd μ = match fa sd μ with
  | some (.ok (.bl b), μ1) => some (.ok b, μ1)
  | some (.error e, μ1) => some (.error e, μ1)
  | _ => none := by
  unfold qB bE
  rcases fa sd μ with _ | ⟨_ | x, m⟩ <;> try rfl
  cases x <;> rfl
@[simp] theorem qTru_e (fa : EE) (sd : Sl) (μ : Mem) : qTru fa sd μ = match fa sd μ with
  | none => none
  | some (.error e, μ1) => some (.error e, μ1)
  | some (.ok x, μ1) => match truD μ1 x with
    | none => none
    | some b => some (.ok b, μ1) := by
  unfold qTru bE
  rcases fa sd μ with _ | ⟨_ | x, m⟩ <;> try rfl
  dsimp only
  cases truD m x <;> rfl
@[simp] theorem qNot_e (t : ET) (sd : Sl) (μ : Mem) : qNot t sd μ = match t sd μ with
  | none => none
  | some (.error e, μ1) => some (.error e, μ1)
  | some (.ok b, μ1) => some (.ok (!b), μ1) := by
  unfold qNot bE
  rcases t sd μ with _ | ⟨_ | x, m⟩ <;> rfl
@[simp] theorem qAnd_e (t u : ET) (sd : Sl) (μ : Mem) : qAnd t u sd μ = match t sd μ with
  | none => none
  | some (.error e, μ1) => some (.error e, μ1)
  | some (.ok true, μ1) => u sd μ1
  | some (.ok false, μ1) => some (.ok false, μ1) := by
  unfold qAnd bE
  rcases t sd μ with _ | ⟨_ | x, m⟩ <;> try rfl
  cases x <;> rfl
@[simp] theorem qOr_e (t u : ET) (sd : Sl) (μ : Mem) : qOr t u sd μ = match t sd μ with
  | none => none
  | some (.error e, μ1) => some (.error e, μ1)
  | some (.ok true, μ1) => some (.ok true, μ1)
  | some (.ok false, μ1) => u sd μ1 := by
  unfold qOr bE
  rcases t sd μ with _ | ⟨_ | x, m⟩ <;> try rfl
  cases x <;> rfl
@[simp] theorem eCall_e (m : Mir) (np : Nat) (a : EA) (sd : Sl) (μ : Mem) : eCall m np a sd μ = match a sd μ with
  | none => none
  | some (.error e, μ1) => some (.error e, μ1)
  | some (.ok ds, μ1) => match argsD μ1 ds with
    | none => none
    | some ds' => if ds'.length = np then (match m ds' with
      | none => none
      | some (.ok d) => some (.ok d, μ1)
      | some (.error e) => some (.error e, μ1)) else none := by
  unfold eCall bE
  rcases a sd μ with _ | ⟨_ | x, m⟩ <;> try rfl
  dsimp only
  cases argsD m x <;> rfl
@[simp] theorem eSl_e (g : Mem → D → Option Int → Option Int → Option D) (f : EE) (l h : EO) (sd : Sl) (μ : Mem) : eSl g f l h sd μ = match f sd μ with
  | none => none
  | some (.error e, μ1) => some (.error e, μ1)
  | some (.ok x, μ1) => match l sd μ1 with
    | none => none
    | some (.error e, μ2) => some (.error e, μ2)
    | some (.ok i, μ2) => match h sd μ2 with
      | none => none
      | some (.error e, μ3) => some (.error e, μ3)
      | some (.ok j, μ3) => match g μ3 x i j with
        | none => none
        | some d => some (.ok d, μ3) := by
  unfold eSl bE
  rcases f sd μ with _ | ⟨_ | x, m⟩ <;> try rfl
  dsimp only
  rcases l sd m with _ | ⟨_ | i, m2⟩ <;> try rfl
  dsimp only
  rcases h sd m2 with _ | ⟨_ | j, m3⟩ <;> try rfl
  dsimp only
  cases g m3 x i j <;> rfl
@[simp] theorem oNone_e (sd : Sl) (μ : Mem) : oNone sd μ = some (.ok none, μ) := rfl
@[simp] theorem oSome_e (f : EE) (sd : Sl) (μ : Mem) : oSome f sd μ = match f sd μ with
  | some (.ok (.int i), μ1) => some (.ok (some i), μ1)
  | some (.error e, μ1) => some (.error e, μ1)
  | _ => none := by
  unfold oSome bE
  rcases f sd μ with _ | ⟨_ | x, m⟩ <;> try rfl
  cases x <;> rfl
@[simp] theorem eMu_e (g : Mem → D → List D → Option (D × Mem)) (f : EE) (a : EA) (sd : Sl) (μ : Mem) : eMu g f a sd μ = match f sd μ with
  | none => none
  | some (.error e, μ1) => some (.error e, μ1)
  | some (.ok x, μ1) => match isLst μ1 x with
    | none => none
    | some _ => match a sd μ1 with
      | none => none
      | some (.error e, μ2) => some (.error e, μ2)
      | some (.ok ds, μ2) => match g μ2 x ds with
        | none => none
        | some (d, μ3) => some (.ok d, μ3) := by
  unfold eMu bE
  rcases f sd μ with _ | ⟨_ | x, m⟩ <;> try rfl
  dsimp only
  cases isLst m x <;> try rfl
  rename_i w; dsimp only [Option.bind]
  rcases a sd m with _ | ⟨_ | ds, m2⟩ <;> try rfl
  dsimp only
  cases g m2 x ds <;> rfl
@[simp] theorem iSeq_e (f : EE) (sd : Sl) (μ : Mem) : iSeq f sd μ = match f sd μ with
  | none => none
  | some (.error e, μ1) => some (.error e, μ1)
  | some (.ok d, μ1) => match srcD μ1 d with
    | none => none
    | some z => some (.ok z, μ1) := by
  unfold iSeq bE
  rcases f sd μ with _ | ⟨_ | x, m⟩ <;> try rfl
  dsimp only
  cases srcD m x <;> rfl
@[simp] theorem gD_e (i : Nat) (sd : Sl) (μ : Mem) (d : D) : gD i sd μ d = match d with
  | .new _ => none
  | d => some (sd.set i (some d), μ) := rfl
@[simp] theorem gTup_e (u : TgsD) (sd : Sl) (μ : Mem) (ds : List D) : gTupD u sd μ (.tup ds) = u sd μ ds := rfl
@[simp] theorem gNil_e (sd : Sl) (μ : Mem) : gNilD sd μ [] = some (sd, μ) := rfl
@[simp] theorem gCons_e (t : TgD) (u : TgsD) (sd : Sl) (μ : Mem) (d : D) (ds : List D) : gConsD t u sd μ (d :: ds) = match t sd μ d with
  | none => none
  | some (sd1, μ1) => u sd1 μ1 ds := by
  show ((t sd μ d).bind fun z => u z.1 z.2 ds) = _
  cases t sd μ d <;> rfl
@[simp] theorem c1_e (g : Mem → D → Option D) (μ : Mem) (d : D) : c1 g μ [d] = g μ d := rfl
@[simp] theorem c2_e (g : Mem → D → D → Option D) (μ : Mem) (d e : D) : c2 g μ [d, e] = g μ d e := rfl
@[simp] theorem out_int (μ : Mem) (i : Int) : outD μ (.int i) = some (.int i) := rfl
@[simp] theorem out_bl (μ : Mem) (i : Bool) : outD μ (.bl i) = some (.bl i) := rfl
@[simp] theorem out_non (μ : Mem) : outD μ .non = some .non := rfl
@[simp] theorem neg_int (μ : Mem) (i : Int) : gNeg μ (.int i) = some (.int (-i)) := rfl
theorem out_tup {μ : Mem} {ds : List D} (h : plainL ds = true) : outD μ (.tup ds) = some (.tup ds) := by
  show (if plainL ds = true then _ else _) = _
  rw [if_pos h]
theorem plainL_int (l : List Int) : plainL (l.map D.int) = true := by
  induction l with
  | nil => rfl
  | cons x l ih => exact ih
theorem atI_nat {α : Type} (l : List α) (k : Nat) (h : k < l.length) : L2.atI l (k : Int) = some (l[k]'h) := by
  unfold L2.atI L2.ixN
  rw [if_pos (by omega), if_pos (by omega)]
  simp [h]
theorem ix_map {α : Type} {μ : Mem} {x : D} {l : List α} {e : α → D} {i : Int} (d : α) (hx : x = .tup (l.map e) ∨ lsAny μ x = some (l.map e)) (h0 : 0 ≤ i) (h : i < l.length) (hn : ∀ a es, e a ≠ .new es) : gIx μ x (.int i) = some (e (l.getD i.toNat d)) := by
  obtain ⟨k, rfl⟩ := Int.eq_ofNat_of_zero_le h0
  have hk : k < l.length := by omega
  refine gIx_int hx ?_ (hn _)
  rw [atI_nat _ k (by simpa using hk)]
  simp [List.getD, hk]
theorem ix_int {μ : Mem} {x : D} {l : List Int} {i : Int} (hx : x = .tup (l.map D.int) ∨ lsAny μ x = some (l.map D.int)) (h0 : 0 ≤ i) (h : i < l.length) : gIx μ x (.int i) = some (.int (l.getD i.toNat 0)) :=
  ix_map 0 hx h0 h (fun _ _ e => by cases e)
/-! sums of ints -/
@[simp] theorem add_int (μ : Mem) (i j : Int) : gAdd μ (.int i) (.int j) = some (.int (i + j)) := rfl
@[simp] theorem sub_int (μ : Mem) (i j : Int) : gSubI μ (.int i) (.int j) = some (.int (i - j)) := rfl
theorem mul_int {μ : Mem} {i j : Int} (h : CMulW i j) : gMul μ (.int i) (.int j) = some (.int (i * j)) := by
  unfold gMul gMulI gI
  simp only [when_t h, Option.some_or]
theorem add_tup {μ : Mem} {ds es : List D} (h : ds.length + es.length ≤ 100000) : gAdd μ (.tup ds) (.tup es) = some (.tup (ds ++ es)) := by
  have h2 : ds.length + es.length ≤ sizeLine := le_size h
  unfold gAdd
  have : gAddI μ (.tup ds) (.tup es) = none := rfl
  rw [this]
  show (Option.or (if ds.length + es.length ≤ sizeLine then _ else _) _) = _
  rw [if_pos h2]
  rfl
theorem mul_tup {μ : Mem} {ds : List D} {k : Int} (h : k ≤ 1000) (h0 : 0 ≤ k) (hl : ds.length ≤ 1000) : gMul μ (.tup ds) (.int k) = some (.tup (List.replicate k.toNat ds).flatten) := by
  unfold gMul
  have : gMulI μ (.tup ds) (.int k) = none := rfl
  rw [this]
  show (Option.or (when_ _ _) _) = _
  rw [when_t ⟨h, hl, by omega⟩]
  rfl
@[simp] theorem flat_rep {α : Type} (n : Nat) (x : α) : (List.replicate n [x]).flatten = List.replicate n x := by
  induction n with
  | zero => rfl
  | succ n ih => simp [List.replicate_succ, ih]
@[simp] theorem sz0 : 0 ≤ sizeLine := le_size (by decide)
@[simp] theorem sz1 : 1 ≤ sizeLine := le_size (by decide)
@[simp] theorem sz2 : 2 ≤ sizeLine := le_size (by decide)
@[simp] theorem sz3 : 3 ≤ sizeLine := le_size (by decide)
@[simp] theorem sz4 : 4 ≤ sizeLine := le_size (by decide)
@[simp] theorem sz5 : 5 ≤ sizeLine := le_size (by decide)
@[simp] theorem sz6 : 6 ≤ sizeLine := le_size (by decide)
@[simp] theorem sz7 : 7 ≤ sizeLine := le_size (by decide)
@[simp] theorem sz8 : 8 ≤ sizeLine := le_size (by decide)
@[simp] theorem sz9 : 9 ≤ sizeLine := le_size (by decide)
@[simp] theorem sz10 : 10 ≤ sizeLine := le_size (by decide)
@[simp] theorem sz11 : 11 ≤ sizeLine := le_size (by decide)
@[simp] theorem sz12 : 12 ≤ sizeLine := le_size (by decide)
end DL
set_option Elab.async false
set_option linter.all false
set_option maxRecDepth 100000
namespace DL
open PySem PySem.Spec PyProof.Rows L2
theorem iR1_of {f : EA} {sd : Sl} {μ : Mem} {n : Nat} (h : f sd μ = some (.ok [.int n], μ)) (hn : n ≤ 100000) : iR1 f sd μ = some (.ok ((List.range n).map (fun i : Nat => D.int i), fun _ => True), μ) := by
  unfold iR1
  rw [h]
  simp only [bE_ok, one, intD, Option.bind_some]
  rw [when_t ⟨by omega, by omega⟩, Int.toNat_natCast, range0]
theorem add_new {μ : Mem} {x y : D} {ds es : List D} (hx : isLst μ x = some ds) (hy : isLst μ y = some es) (h : ds.length + es.length ≤ 100000) : gAdd μ x y = some (.new (ds ++ es)) := by
  have h1 : gAddI μ x y = none := by cases x <;> first | rfl | exact absurd hx (by simp [isLst])
  have h2 : gAddT μ x y = none := by cases x <;> first | rfl | exact absurd hx (by simp [isLst])
  unfold gAdd
  rw [h1, h2]
  show Option.or (gAddL μ x y) _ = _
  unfold gAddL
  rw [hx, hy]
  show Option.or (if ds.length + es.length ≤ sizeLine then _ else _) _ = _
  rw [if_pos (le_size h)]
  rfl
@[simp] theorem isl_new (μ : Mem) (ds : List D) : isLst μ (.new ds) = some ds := rfl
@[simp] theorem isl_lst (μ : Mem) (ds : List D) : isLst μ (.lst ds) = some ds := rfl
@[simp] theorem lsA_new (μ : Mem) (ds : List D) : lsAny μ (.new ds) = some ds := rfl
@[simp] theorem lsA_lst (μ : Mem) (ds : List D) : lsAny μ (.lst ds) = some ds := rfl
@[simp] theorem lsA_lck (μ : Mem) (ds : List D) : lsAny μ (.lck ds) = some ds := rfl
@[simp] theorem lsA_ref (μ : Mem) (n : Nat) : lsAny μ (.ref n) = isLst μ (.ref n) := rfl
@[simp] theorem isl_ref (μ : Mem) (n : Nat) : isLst μ (.ref n) = match μ[n]? with
  | some (.lst ds) => some ds
  | _ => none := rfl
@[simp] theorem tup_new (μ : Mem) (ds : List D) : gTuple μ [.new ds] = some (.tup ds) := rfl
@[simp] theorem tup_lst (μ : Mem) (ds : List D) : gTuple μ [.lst ds] = some (.tup ds) := rfl
@[simp] theorem tup_tup (μ : Mem) (ds : List D) : gTuple μ [.tup ds] = some (.tup ds) := rfl
@[simp] theorem len_tup (μ : Mem) (ds : List D) : gLen μ [.tup ds] = some (.int ds.length) := rfl
@[simp] theorem len_new (μ : Mem) (ds : List D) : gLen μ [.new ds] = some (.int ds.length) := rfl
@[simp] theorem len_lst (μ : Mem) (ds : List D) : gLen μ [.lst ds] = some (.int ds.length) := rfl
@[simp] theorem len_lck (μ : Mem) (ds : List D) : gLen μ [.lck ds] = some (.int ds.length) := rfl
theorem tup_any {μ : Mem} {x : D} {ds : List D} (h : lsAny μ x = some ds) : gTuple μ [x] = some (.tup ds) := by
  show g1Tuple μ x = _
  unfold g1Tuple
  cases x <;> simp only [] <;> first | (rw [h]; rfl) | exact absurd h (by simp [lsAny, isLst])
theorem len_any {μ : Mem} {x : D} {ds : List D} (h : lsAny μ x = some ds) : gLen μ [x] = some (.int ds.length) := by
  show g1Len μ x = _
  unfold g1Len sqAny
  cases x <;> simp only [] <;> first | (rw [h]; rfl) | exact absurd h (by simp [lsAny, isLst])
theorem add_nn {μ : Mem} {ds es : List D} (h : ds.length + es.length ≤ 100000) : gAdd μ (.new ds) (.new es) = some (.new (ds ++ es)) := add_new rfl rfl h
theorem okAL_map {α : Type} {e : α → D} (h : ∀ a, okA (e a) = true) (l : List α) : okAL (l.map e) = true := by
  induction l with
  | nil => rfl
  | cons x l ih => show (okA (e x) && okAL (l.map e)) = true; rw [h, ih]; rfl
theorem plainL_map {α : Type} {e : α → D} (h : ∀ a, plain (e a) = true) (l : List α) : plainL (l.map e) = true := by
  induction l with
  | nil => rfl
  | cons x l ih => show (plain (e x) && plainL (l.map e)) = true; rw [h, ih]; rfl
@[simp] theorem argsD_nil (μ : Mem) : argsD μ [] = some [] := rfl
@[simp] theorem argsD_cons (μ : Mem) (d : D) (ds : List D) : argsD μ (d :: ds) = match argD μ d with
  | none => none
  | some x => match argsD μ ds with
    | none => none
    | some xs => some (x :: xs) := by
  show ((argD μ d).bind fun x => (argsD μ ds).map fun xs => x :: xs) = _
  cases argD μ d with
  | none => rfl
  | some x => cases argsD μ ds <;> rfl
@[simp] theorem argD_int (μ : Mem) (i : Int) : argD μ (.int i) = some (.int i) := rfl
@[simp] theorem argD_bl (μ : Mem) (i : Bool) : argD μ (.bl i) = some (.bl i) := rfl
@[simp] theorem argD_non (μ : Mem) : argD μ .non = some .non := rfl
@[simp] theorem argD_str (μ : Mem) (z : Str) : argD μ (.str z) = some (.str z) := rfl
theorem argD_tup {μ : Mem} {ds : List D} (h : okAL ds = true) : argD μ (.tup ds) = some (.tup ds) := if_pos h
theorem argD_lck {μ : Mem} {ds : List D} (h : okAL ds = true) : argD μ (.lck ds) = some (.lck ds) := if_pos h
theorem argD_new {μ : Mem} {ds : List D} (h : okAL ds = true) : argD μ (.new ds) = some (.lst ds) := if_pos h
theorem argD_ref {μ : Mem} {n : Nat} {ds : List D} (hm : μ[n]? = some (.lst ds)) (h : okAL ds = true) : argD μ (.ref n) = some (.lst ds) := by
  unfold argD
  simp only [hm, h, if_true]
theorem out_ref {μ : Mem} {n : Nat} {ds : List D} (hm : μ[n]? = some (.lst ds)) (h : plainL ds = true) : outD μ (.ref n) = some (.new ds) := by
  unfold outD
  simp only [hm, h, if_true]
@[simp] theorem lt_int (μ : Mem) (i j : Int) : gLtI μ (.int i) (.int j) = some (.bl (decide (i < j))) := rfl
@[simp] theorem le_int (μ : Mem) (i j : Int) : gLeI μ (.int i) (.int j) = some (.bl (decide (i ≤ j))) := rfl
@[simp] theorem gt_int (μ : Mem) (i j : Int) : gGtI μ (.int i) (.int j) = some (.bl (decide (i > j))) := rfl
@[simp] theorem ge_int (μ : Mem) (i j : Int) : gGeI μ (.int i) (.int j) = some (.bl (decide (i ≥ j))) := rfl
theorem mod_int {μ : Mem} {i j : Int} (h : 0 < j) : gModI μ (.int i) (.int j) = some (.int (i % j)) := when_t h
theorem div_int {μ : Mem} {i j : Int} (h : CDivW i j) : gDivI μ (.int i) (.int j) = some (.int (i / j)) := when_t h
theorem pow_int {μ : Mem} {i j : Int} (h : CPow i j) : gPowI μ (.int i) (.int j) = some (.int (i ^ j.toNat)) := when_t h
@[simp] theorem abs_int (μ : Mem) (i : Int) : gAbs μ [.int i] = some (.int (if i < 0 then -i else i)) := rfl
@[simp] theorem int_int (μ : Mem) (i : Int) : gInt μ [.int i] = some (.int i) := rfl
@[simp] theorem tru_bl (μ : Mem) (b : Bool) : truD μ (.bl b) = some b := rfl
@[simp] theorem isN_int (μ : Mem) (n : Bool) (i : Int) : gIsN n μ (.int i) .non = some (.bl n) := by cases n <;> rfl
@[simp] theorem isN_bl (μ : Mem) (n : Bool) (i : Bool) : gIsN n μ (.bl i) .non = some (.bl n) := by cases n <;> rfl
@[simp] theorem isN_str (μ : Mem) (n : Bool) (i : Str) : gIsN n μ (.str i) .non = some (.bl n) := by cases n <;> rfl
@[simp] theorem isN_tup (μ : Mem) (n : Bool) (i : List D) : gIsN n μ (.tup i) .non = some (.bl n) := by cases n <;> rfl
@[simp] theorem isN_non (μ : Mem) (n : Bool) : gIsN n μ .non .non = some (.bl (!n)) := by cases n <;> rfl
@[simp] theorem isi_int_tup (μ : Mem) (i : Int) : gIsi μ [.int i, .ty "tuple"] = some (.bl false) := rfl
@[simp] theorem isi_int_int (μ : Mem) (i : Int) : gIsi μ [.int i, .ty "int"] = some (.bl true) := rfl
@[simp] theorem isi_int_bool (μ : Mem) (i : Int) : gIsi μ [.int i, .ty "bool"] = some (.bl false) := rfl
@[simp] theorem isi_int_str (μ : Mem) (i : Int) : gIsi μ [.int i, .ty "str"] = some (.bl false) := rfl
@[simp] theorem isi_bl_tup (μ : Mem) (i : Bool) : gIsi μ [.bl i, .ty "tuple"] = some (.bl false) := rfl
@[simp] theorem isi_bl_int (μ : Mem) (i : Bool) : gIsi μ [.bl i, .ty "int"] = some (.bl true) := rfl
@[simp] theorem isi_bl_bool (μ : Mem) (i : Bool) : gIsi μ [.bl i, .ty "bool"] = some (.bl true) := rfl
@[simp] theorem isi_bl_str (μ : Mem) (i : Bool) : gIsi μ [.bl i, .ty "str"] = some (.bl false) := rfl
@[simp] theorem isi_tup_tup (μ : Mem) (i : List D) : gIsi μ [.tup i, .ty "tuple"] = some (.bl true) := rfl
@[simp] theorem isi_tup_int (μ : Mem) (i : List D) : gIsi μ [.tup i, .ty "int"] = some (.bl false) := rfl
@[simp] theorem isi_str_tup (μ : Mem) (i : Str) : gIsi μ [.str i, .ty "tuple"] = some (.bl false) := rfl
@[simp] theorem isi_str_str (μ : Mem) (i : Str) : gIsi μ [.str i, .ty "str"] = some (.bl true) := rfl
@[simp] theorem isi_str_bool (μ : Mem) (i : Str) : gIsi μ [.str i, .ty "bool"] = some (.bl false) := rfl
@[simp] theorem isi_str_int (μ : Mem) (i : Str) : gIsi μ [.str i, .ty "int"] = some (.bl false) := rfl
@[simp] theorem src_tupE (μ : Mem) (ds : List D) : srcD μ (.tup ds) = some (ds, fun _ => True) := rfl
@[simp] theorem src_lckE (μ : Mem) (ds : List D) : srcD μ (.lck ds) = some (ds, fun _ => True) := rfl
@[simp] theorem src_lstE (μ : Mem) (ds : List D) : srcD μ (.lst ds) = some (ds, fun _ => True) := rfl
@[simp] theorem src_newE (μ : Mem) (ds : List D) : srcD μ (.new ds) = some (ds, fun _ => True) := rfl
theorem app_ref {μ : Mem} {n : Nat} {es : List D} {d : D} (h : μ[n]? = some (.lst es)) (hl : es.length ≤ 100000) (hd : notNew d = true) : muAppend μ (.ref n) [d] = some (.non, μ.set n (.lst (es ++ [d]))) := by
  have hs : es.length < sizeLine := Nat.lt_of_le_of_lt hl (by decide)
  unfold muAppend
  cases d with
  | new ds => cases hd
  | _ => simp only [h, hs, if_true]
@[simp] theorem eChain_e (g1 g2 : Mem → D → D → Option D) (fa fb fc : EE) (sd : Sl) (μ : Mem) : eChain g1 g2 fa fb fc sd μ = match fa sd μ with
  | none => none
  | some (.error e, μ1) => some (.error e, μ1)
  | some (.ok x, μ1) => match fb sd μ1 with
    | none => none
    | some (.error e, μ2) => some (.error e, μ2)
    | some (.ok y, μ2) => match g1 μ2 x y with
      | some (.bl true) => (match fc sd μ2 with
        | none => none
        | some (.error e, μ3) => some (.error e, μ3)
        | some (.ok z, μ3) => match g2 μ3 y z with
          | none => none
          | some d => some (.ok d, μ3))
      | some (.bl false) => some (.ok (.bl false), μ2)
      | _ => none := by
  unfold eChain bE
  rcases fa sd μ with _ | ⟨_ | x, m⟩ <;> try rfl
  dsimp only
  rcases fb sd m with _ | ⟨_ | y, m2⟩ <;> try rfl
  dsimp only
  cases g1 m2 x y with
  | none => rfl
  | some r =>
    cases r <;> try rfl
    rename_i b
    cases b <;> try rfl
    dsimp only [Option.bind, boolD]
    simp only [if_true]
    rcases fc sd m2 with _ | ⟨_ | z, m3⟩ <;> try rfl
    dsimp only
    cases g2 m3 y z <;> rfl
@[simp] theorem gSub_e (fo fi : EE) (sd : Sl) (μ : Mem) (d : D) : gSub fo fi sd μ d = match fo sd μ with
  | some (.ok x, μ1) => (match fi sd μ1 with
    | some (.ok y, μ2) => (match setM μ2 x y d with
      | none => none
      | some μ3 => some (sd, μ3))
    | _ => none)
  | _ => none := by
  unfold gSub
  rcases fo sd μ with _ | ⟨_ | x, m⟩ <;> try rfl
  dsimp only
  rcases fi sd m with _ | ⟨_ | y, m2⟩ <;> try rfl
  dsimp only
  cases setM m2 x y d <;> rfl
@[simp] theorem sAugS_e (fo fi : EE) (g : Mem → D → D → Option D) (f : EE) (sd : Sl) (μ : Mem) : sAugS fo fi g f sd μ = match fo sd μ with
  | none => none
  | some (.error e, μ1) => some (.exc e, sd, μ1)
  | some (.ok x, μ1) => match fi sd μ1 with
    | none => none
    | some (.error e, μ2) => some (.exc e, sd, μ2)
    | some (.ok y, μ2) => match (if posI y = true then gIxL μ2 x y else none) with
      | none => none
      | some old => match f sd μ2 with
        | none => none
        | some (.error e, μ3) => some (.exc e, sd, μ3)
        | some (.ok z, μ3) => match g μ3 old z with
          | none => none
          | some d => match setM μ3 x y d with
            | none => none
            | some μ4 => some (.nx, sd, μ4) := by
  unfold sAugS bS
  rcases fo sd μ with _ | ⟨_ | x, m⟩ <;> try rfl
  dsimp only
  rcases fi sd m with _ | ⟨_ | y, m2⟩ <;> try rfl
  dsimp only
  generalize (if posI y = true then gIxL m2 x y else none) = w
  cases w <;> try rfl
  rename_i old
  dsimp only
  rcases f sd m2 with _ | ⟨_ | z, m3⟩ <;> try rfl
  dsimp only
  cases g m3 old z <;> try rfl
  rename_i d
  dsimp only
  cases setM m3 x y d <;> rfl
theorem ixN_nat {n k : Nat} (h : k < n) : ixN n (k : Int) = some k := by
  unfold ixN
  rw [if_pos (by omega), if_pos (by omega), Int.toNat_natCast]
theorem set_ref {μ : Mem} {n k : Nat} {ds : List D} {d : D} (hm : μ[n]? = some (.lst ds)) (hk : k < ds.length) (hd : notNew d = true) : setM μ (.ref n) (.int k) d = some (μ.set n (.lst (ds.set k d))) := by
  unfold setM
  simp only [hm, hd, if_true, ixN_nat hk, Option.map_some]
theorem ixL_ref {μ : Mem} {n k : Nat} {l : List Int} (hm : μ[n]? = some (.lst (l.map D.int))) (hk : k < l.length) : gIxL μ (.ref n) (.int k) = some (.int (l.getD k 0)) := by
  show ((lsAny μ (.ref n)).bind fun ds => itemD (L2.atI ds k)) = _
  rw [lsA_ref, isl_ref, hm]
  show itemD (L2.atI (l.map D.int) k) = _
  rw [atI_nat _ k (by simpa using hk)]
  simp [itemD, List.getD, hk]
theorem mul_new {μ : Mem} {ds : List D} {k : Int} (h0 : 0 ≤ k) (h1 : k ≤ 1000) (h : ds.length ≤ 100) : gMul μ (.new ds) (.int k) = some (.new (List.replicate k.toNat ds).flatten) := by
  have h2 : ds.length * k.toNat ≤ sizeLine := le_size (Nat.le_trans (Nat.mul_le_mul h (show k.toNat ≤ 1000 by omega)) (by decide))
  unfold gMul
  rw [show gMulI μ (.new ds) (.int k) = none from rfl, show gMulT μ (.new ds) (.int k) = none from rfl, Option.none_or, Option.none_or]
  show when_ _ _ = _
  rw [when_t ⟨by omega, by omega, h2⟩]
theorem iZip_tup {f : EA} {sd : Sl} {μ : Mem} {ds es : List D} (h : f sd μ = some (.ok [.tup ds, .tup es], μ)) : iZip2 f sd μ = some (.ok (zipD ds es, fun _ => True ∧ True), μ) := by
  unfold iZip2
  rw [h]
  rfl
theorem sum_new (μ : Mem) (l : List Int) : gSum μ [.new (l.map D.int)] = some (.int l.sum) := by
  have key : ∀ l : List Int, allD intD (l.map D.int) = some l := fun l => by
    induction l with
    | nil => rfl
    | cons x l ih => show ((intD (D.int x)).bind fun i => (allD intD (l.map D.int)).map fun is => i :: is) = _; rw [ih]; rfl
  show ((allD intD (l.map D.int)).map fun is => D.int is.sum) = _
  rw [key]
  rfl
theorem all_new (μ : Mem) (l : List Bool) : gAll μ [.new (l.map D.bl)] = some (.bl (l.all id)) := by
  have key : ∀ l : List Bool, allD boolD (l.map D.bl) = some l := fun l => by
    induction l with
    | nil => rfl
    | cons x l ih => show ((boolD (D.bl x)).bind fun i => (allD boolD (l.map D.bl)).map fun is => i :: is) = _; rw [ih]; rfl
  show ((allD boolD (l.map D.bl)).map fun is => D.bl (is.all id)) = _
  rw [key]
  rfl
theorem cut1 (d : D) (ds : List D) : cutD (d :: ds) (some 1) none = ds := by
  unfold cutD HT.sIx
  simp
theorem sl_tup1 (μ : Mem) (d : D) (ds : List D) : gSl μ (.tup (d :: ds)) (some 1) none = some (.tup ds) := by
  show Option.or (some (D.tup (cutD (d :: ds) (some 1) none))) _ = _
  rw [cut1]
  rfl
end DL
set_option Elab.async false
set_option linter.all false
set_option maxRecDepth 100000
/-! DL, part x: an own exception's __init__ that begins by super().__init__(..). -/
namespace DLX
open PySem PySem.Spec PyProof.Rows PySem.W PySem.Calls L2 NdefX
section
variable {X : Cx} {pins : List (Addr × Obj)} {σ : L2.St} {H : Hp} {s : Shared} {a C u : Addr} {us : List Value} {A : Around} {E : Value → Shared → Prop} {Q : Value → Shared → Prop}
theorem mw_type : (Value.type "method-wrapper" == Value.type "method" || Value.type "method-wrapper" == Value.type "builtin_function_or_method" || Value.type "method-wrapper" == Value.type "method-wrapper") = true := by decide
/-- the bound built-in __init__, called on what is being made -/
theorem mw_run (T : OexC X.K C) (I : Inv X pins σ H s) (e : H a = some (exo a C none)) (hu : s.heap.get? u = some (kxs_mw "ValueError.__init__" a)) (hl : us.length ≤ sizeLine) (h : ∀ s', Inv X pins σ H s' → Q .none s') :
    wpAny (model X.prog X.w) A (call (.ref u) us) Q E s := by
  obtain ⟨c1, c2, c3, c4, c5, c6, c7, c8, c9, c10, c11, c12, c13, c14, c15, hC, hbm⟩ := T.cls
  obtain ⟨t1, ho⟩ := exo_at I.hok e
  obtain ⟨hp, gs, dr, tk, os⟩ := s
  have done : ∀ h', (∀ b o, b ≠ a → hp.get? b = some o → h'.get? b = some o) → h'.get? a = some (PySem.HandSPX.excO C hp.objs.size) → Q .none ⟨h', gs, dr, tk, os⟩ := fun h' k hx => by
    have J := I.write (t' := tk) (x := a) (e := a) (o := exo a C none) (by rw [e]; exact True.intro) (.inl rfl) k ⟨_, hx⟩ (exo_ok hx)
    have eu : upd H a (exo a C none) = H := funext fun b => by
      by_cases hb : b = a
      · subst hb; rw [upd_same, e]
      · exact upd_ne hb
    rw [eu] at J
    exact h _ J
  refine wpAny_call (codeAny_of_tree ?_)
  show wpAny _ A.in1 (callAny (.ref u) ⟨us, []⟩) _ _ _
  unfold callAny
  refine wpAny_bind (wpAny_load hu ?_)
  simp only [kxs_mw, mw_type, if_true]
  refine KFB.if_so (by decide) (wpAny_bind (check_bound_init F.excBase_ValueError.toExcCallFacts (I.kIn _ _ hC) ho rfl (wpAny_bind (wpAny_pure (wpAny_pure ⟨plainId_quiet F.excBase_ValueError.init.plain _, codeAny_builtin F.excBase_ValueError.initEntry ?_⟩)))))
  exact exc_init_tree (cls := .ref C) (t0 := t1) (dv := none) (c2 := .none) (c3 := .none) (b4 := .bool false) ho hl fun h' k hx _ => done h' k hx
end

/-! ### super().__init__(e, ..) as the first statement -/
/-- what is known of the class D, of its __init__ f -/
structure SupI (P : Program) (K : PySem.W.Frag) (mg : Str → Option Value) (D f : Addr) (F : NF) (fd : FuncData) : Prop where
  fn : ∃ oc od osl dV kV doc pm an ct, fd = ksFn F.name F.qual F.params F.body F.scope dV kV doc pm an (.ref F.c) ct (F.cl.headD ("", 0)).2 ∧ K.lookup f = some ⟨oc, od, .func fd, osl⟩
  cl : ∃ cc, F.cl = [(("__class__" : Str), cc)] ∧ ∃ c d sl, K.lookup cc = some ⟨c, d, .cell (some (.ref D)), sl⟩
  code : PySem.W.codeIn K (.ref F.c) F.qual = true
  file : ∃ c d vs sl z t, K.lookup F.c = some ⟨c, d, .fields vs, sl⟩ ∧ vs[2]? = some (.str z t) ∧ ((P.main.file : Str) == z) = true
  cls : ∃ cd, clsIn K D = some cd
  sub : mroIn K D (.ref D) = some true
  up : ks_superIn K D D "__init__" = some (some (.builtin "ValueError.__init__"))
  ve : subIn K (.ref D) (.type "ValueError") = some true
  third : nsIn K cStatics "thirdparty.any" = some none
  nosup : mg "super" = none
  top : (P.main.scope.names.lookup ("super" : Str)).isSome = false
  names : F.scope.names.lookup ("super" : Str) = some .globalImplicit
theorem init_ok {P : Program} {w : World} {K : PySem.W.Frag} {mg : Str → Option Value} {base : Heap} {CX : CXT} {N ps : List Str} {k : Nat} {f D : Addr} {F : NF} {fd : FuncData} {sp : Sp} {ar : Arg} {e : Expr} {es : List Expr} {rest : List Stmt} {p0 p1 p2 p3 p4 : Pos}
    (Z : SupI P K mg D f F fd) (T : OexC K D) (S : NScope N ps ["__class__"] F.scope) (hp : (F.params.posonlyargs ++ F.params.args).head? = some ar) (hps : ps[0]? = some ar.arg) (hbody : F.body = .Expr (.Call (.Attribute (.Call (.Name "super" p0) [] [] p1) "__init__" p2) (e :: es) [] p3) p4 :: rest)
    (len : ∀ vs H Q E, sp vs H Q E → vs.length = ps.length)
    (hb : ∀ (A : Around) (outer : List Env) (s : Shared) (H : Hp) (vs : List V) (Q : VK) (E : XK), Room k (A.deeper (envF F f s.heap.objs.size)) → sp vs H Q E →
      ∃ (a : Addr) (xs : List V) (ta : TA) (t : TS), vs = .ref a :: xs ∧ H a = some (exo a D none) ∧ PA (ncx CX P w K mg base N F f A outer s H E) (e :: es) ta ∧ PSs (ncx CX P w K mg base N F f A outer s H E) rest t ∧
        ta (startF N vs [none]) H fun ws H1 => ws.length ≤ 1000 ∧ H1 a = some (exo a D none) ∧ t { nx := fun _ H' => Q .non H', rt := Q } (startF N vs [none]) H1)
    (he : ∀ env : Env, starEach (e :: es) env = (false, eval e env) :: starEach es env := by intro _; rfl) (hpl : ∀ env : Env, (backTo p3 (starEach es env)).any (·.1) = false := by intro _; rfl)
    (hev : ∀ env : Env, ∃ pl : Sem Bool, eval (.Call (.Attribute (.Call (.Name "super" p0) [] [] p1) "__init__" p2) (e :: es) [] p3) env = (do
      let ov ← attributeBase (.Call (.Name "super" p0) [] [] p1) "__init__" env (eval (.Call (.Name "super" p0) [] [] p1) env)
      standAt p2.atName
      let (f, first) ← holding [ov] (getMethod ov "__init__" pl)
      callWith p3 f first (backTo p3 (starEach (e :: es) env)) []) := by intro _; exact ⟨_, rfl⟩)
    (hsw : ∀ env : Env, swapsWith (.Call (.Attribute (.Call (.Name "super" p0) [] [] p1) "__init__" p2) (e :: es) [] p3) none p4.line env = pure false := by intro _; rfl) :
    FnOk P w K mg base CX (k + 1) f fd ps sp := by
  refine ⟨len, fun A outer s H args us vs Q E hr e0 hbind r hsp => ?_⟩
  have hl := len _ _ _ _ hsp
  obtain ⟨cc, hcl, ccls, cdd, csl, hcc⟩ := Z.cl
  obtain ⟨oc, od, osl, dV, kV, doc, pm, an, ct, hfd, lk⟩ := Z.fn
  rw [hcl] at hfd
  have hfd : fd = ksFn F.name F.qual F.params F.body F.scope dV kV doc pm an (.ref F.c) ct cc := hfd
  have up : ∀ b o, base.get? b = some o → s.heap.get? b = some o := fun b o q => (e0.bs b o q).1
  have KI : K.In s.heap := e0.mod.kin.keeps up
  have lim : s.heap.NoLimit := e0.mod.nolimit.keeps up
  have inB : ∀ {b : Addr} {o : Obj}, K.lookup b = some o → H b = none := fun q => (e0.bs _ _ (e0.mod.kin _ _ q)).2
  have CA : CellsAt F.cl ["__class__"] [none] s.heap H := by
    refine ⟨rfl, fun y c q => ?_, fun x y c q1 q2 => ?_, fun i y q => ?_⟩
    · rw [hcl] at q
      simp only [List.lookup] at q
      split at q
      · cases q
        exact ⟨inB hcc, _, _, KI _ _ hcc, rfl⟩
      · cases q
    · rw [hcl] at q1 q2
      simp only [List.lookup] at q1 q2
      split at q1 <;> split at q2 <;> simp_all
    · cases i with
      | zero =>
        cases q
        refine ⟨cc, by rw [hcl]; rfl, fun v q => ?_⟩
        cases q
      | succ i => simp at q
  refine ks_codeAny_call_defAt (fd := fd) (body := F.body) (binds := ps.zip us) hr.depth (KI _ _ lk) rfl lim (by rw [hfd]; exact PySem.W.codeRec_of KI Z.code) (by rw [hfd]) hbind (by rw [hfd]; exact fun x hx => S.nocell x hx)
    (by rw [hfd]; exact fun x hx => S.par _ (List.of_mem_zip (show (x.1, x.2) ∈ ps.zip us from hx)).1) (fun h₁ hns kp => ?_) (by rw [hfd]; exact S.co) (by rw [hfd]; exact S.gen) (by rw [hfd]; exact S.kind)
  have eenv : callEnv fd s.heap.objs.size f = envF F f s.heap.objs.size := by
    rw [hfd]
    unfold envF
    rw [hcl]
    rfl
  rw [eenv]
  obtain ⟨a, xs, ta, t, hvs, ha, hpa, hpss, hta⟩ := hb A outer s H vs Q E (hr.deeper _) hsp
  have I : Inv (ncx CX P w K mg base N F f A outer s H E) [] (startF N vs [none]) H { s with heap := h₁, toks := s.toks + (ps.zip us).length } := inv_startN S hr.hd e0 hl r CA hns kp
  obtain ⟨fcl, fdd, vs', fsl, z, tz, hcode, hvs2, hfile⟩ := Z.file
  obtain ⟨cd, hcd⟩ := Z.cls
  obtain ⟨mb, b1, b2⟩ := e0.mod.blt
  have up1 : ∀ b o, base.get? b = some o → h₁.get? b = some o := fun b o q => kp b o (up b o q)
  have K1 : K.In h₁ := e0.mod.kin.keeps up1
  obtain ⟨oD, hD1, hD2⟩ : ∃ oD, h₁.get? D = some oD ∧ oD.data = .cls cd := by
    have q := hcd
    unfold clsIn at q
    split at q
    · rename_i l
      cases q
      exact ⟨_, K1 _ _ l, rfl⟩
    · cases q
  obtain ⟨t1, hoa⟩ := exo_at I.hok ha
  have hks : (envF F f s.heap.objs.size).kindOf "super" = some .globalImplicit := Z.names
  have hkc : (envF F f s.heap.objs.size).kindOf "__class__" = some .free := S.frk _ (List.mem_singleton.mpr rfl)
  have hka : (envF F f s.heap.objs.size).kindOf ar.arg = some .local := S.par _ (List.mem_of_getElem? hps)
  have ndP : ps.Nodup := by
    have q := S.nd.sublist (List.take_sublist (ps.length + [("__class__" : Str)].length) N)
    rw [S.pre] at q
    exact (List.nodup_append.mp q).1
  have hself : (ps.zip us).reverse.lookup ar.arg = some (.ref a) := by
    rw [hvs] at r
    cases r with
    | @cons _ u0 _ ur ra rw' =>
      obtain rfl : u0 = Value.ref a := ra
      exact zip_look (i := 0) ndP hps rfl
  have hne : a ≠ D := fun q => by
    rw [q] at hoa
    rw [hoa] at hD1
    cases hD1
    cases hD2
  obtain ⟨hp0, gs, dr, tk, os⟩ := s
  rw [hbody]
  obtain ⟨pl, hpl2⟩ := hev (envF F f hp0.objs.size)
  refine ks_wpAt_execs_cons (ks_wpAt_Expr_any (ks_wpAt_MethodCall (pl := pl) ?_ hpl2) (hi := ?hint) (hs := hsw _))
  case hint =>
    have q : (envF F f hp0.objs.size).scope.kind = .function := S.kind
    unfold interactive
    rw [q]
    rfl
  refine ks_wpAt_super_base (f := f) (cc := F.c) hks hkc rfl rfl (K1 _ _ lk) rfl (by rw [hfd]; exact hp) rfl (K1 _ _ hcode) rfl hvs2 hfile Z.top ?_
  refine ks_loadName_global S.kind hks (loadGlobal_builtin (e0.mod.glob.keeps up1) Z.nosup (b1.keeps up1) ((b2 _ (by decide)).trans (show bootBuiltins "super" = some (.type "super") by decide +kernel)) ⟨rfl, ?_⟩)
  refine wpAny_loadName_free S.kind hkc (show F.cl.lookup _ = _ by rw [hcl]; rfl) ⟨_, K1 _ _ hcc, rfl⟩ ?_
  refine wpAny_loadName_local S.kind hka hns hself ?_
  refine ks_wpAny_isType_cls hD1 hD2 ⟨rfl, ?_⟩
  refine ks_wpAny_call_super hD1 hD2 hoa rfl (fun _ q => by cases q) (looks_mroIn K1 Z.sub) (fun h2 e2 k2 => ?_)
  have K2 : K.In h2 := K1.keeps k2
  have IA : InstAt h2 a _ D none := ⟨k2 _ _ hoa, rfl, rfl, trivial⟩
  have hup : alongIn K "__init__" ((cd.mro.dropWhile (· != .ref D)).drop 1) = some (some (.builtin "ValueError.__init__")) := by
    have q := Z.up
    unfold ks_superIn at q
    rw [hcd] at q
    exact q
  refine kxs_getMethod kxs_ValueError e2 (looks_opaque K2 Z.third) (l₀ := cd.mro) (fun A Q E s k q => wpAny_bind ((looks_clsIn K2 hcd) A _ E s k (wpAny_pure q))) rfl K2 hup (IA.type.andThen (looks_subIn K2 Z.ve)) hne rfl ?_
  have hu : (h2.push (kxs_mw "ValueError.__init__" a)).get? h2.objs.size = some (kxs_mw "ValueError.__init__" a) := Heap.get?_push_at rfl rfl
  have k3 : ∀ b o, h₁.get? b = some o → (h2.push (kxs_mw "ValueError.__init__" a)).get? b = some o := fun b o q => Heap.get?_push_of_some _ (k2 _ _ q)
  have lt : h₁.objs.size < h2.objs.size := Heap.lt_size e2
  have I2 : Inv (ncx CX P w K mg base N F f A outer ⟨hp0, gs, dr, tk, os⟩ H E) [(h2.objs.size, kxs_mw "ValueError.__init__" a)] (startF N vs [none]) H ⟨h2.push (kxs_mw "ValueError.__init__" a), gs, dr, tk + (ps.zip us).length + 1, os⟩ := by
    refine (I.kept (t' := tk + (ps.zip us).length + 1) k3).pins_of fun q hq => ?_
    obtain rfl := List.mem_singleton.mp hq
    refine ⟨hu, ?_, ?_, ?_, fun v q => by cases q⟩
    · exact I.hok.fresh (Nat.le_of_lt lt)
    · exact fun q => absurd I.lt (by rw [← show h2.objs.size = _ from q]; exact Nat.not_lt.mpr (Nat.le_of_lt lt))
    · exact I.nofs (Nat.le_of_lt lt)
  have fin : ∀ {σ' : L2.St} {H' : Hp} {v : V} {u : Value} {s' : Shared}, Inv (ncx CX P w K mg base N F f A outer ⟨hp0, gs, dr, tk, os⟩ H E) [] σ' H' s' → RelV v u → Q v H' → CE outer P w H ⟨hp0, gs, dr, tk, os⟩ Q u s' :=
    fun {σ' H' v u s'} J rv q => ⟨v, H', J.os, J.bare, J.base, J.hok, rv, q⟩
  show wpAny _ _ (callWith p3 (.ref h2.objs.size) [] (backTo p3 (starEach (e :: es) (envF F f hp0.objs.size))) []) _ _ _
  have hargs := hpa.run p3 _ _ _ _ _ I2 hta
  have nw : News base hp0.objs.size (h2.push (kxs_mw "ValueError.__init__" a)) [(h2.objs.size, kxs_mw "ValueError.__init__" a)] := fun q hq => by
    obtain rfl := List.mem_singleton.mp hq
    have hL := I.lt
    have hL : hp0.objs.size < h₁.objs.size := hL
    refine ⟨hu, fun q => ?_, ?_⟩
    · have q : h2.objs.size = hp0.objs.size := q
      exact absurd (Nat.lt_trans hL lt) (by rw [q]; exact Nat.lt_irrefl _)
    · cases z : base.get? h2.objs.size with
      | none => rfl
      | some o =>
        have z1 := Heap.lt_size z
        have z2 : base.objs.size ≤ hp0.objs.size := e0.bsz
        exact absurd (Nat.lt_of_lt_of_le z1 z2) (Nat.not_lt.mpr (Nat.le_of_lt (Nat.lt_trans hL lt)))
  refine kxs_callWith1 (i := "ValueError.__init__") (x := a) nw (List.mem_singleton.mpr rfl) ?_ (he _) (hpl _)
  refine thn hargs fun us' s3 ⟨ws, H1, I4, r4, hlen, hex, q⟩ => ?_
  have hu4 : s3.heap.get? h2.objs.size = some (kxs_mw "ValueError.__init__" a) := (I4.pin _ (List.mem_append_right _ (List.mem_singleton.mpr rfl))).1
  have hlen4 : us'.length ≤ sizeLine := by
    rw [← Paired.length r4, sizeLine_eq]
    omega
  refine ⟨hu4, mw_run T I4 hex hu4 hlen4 fun s4 I5 => ?_⟩
  have I6 := I5.pins_of (pins' := []) fun q hq => by simp at hq
  refine wpAt_of_wpAny (wpAny_mono (hpss.run [] _ _ _ _ I6 q) (fun fl s' hs => ?_) fun e s' hs => hs)
  cases fl with
  | ret u =>
    obtain ⟨v, σ', H', J, rv, q⟩ := hs
    exact fin J rv q
  | next =>
    obtain ⟨σ', H', J, q⟩ := hs
    exact fin (v := V.non) (u := Value.none) J rfl q
  | brk =>
    obtain ⟨_, _, _, q⟩ := hs
    exact False.elim q
  | cont =>
    obtain ⟨_, _, _, q⟩ := hs
    exact False.elim q
end DLX
set_option Elab.async false
set_option linter.all false
set_option maxRecDepth 100000
/-! DL, part y: own errors raised. -/
namespace DL
open PySem PySem.Spec PyProof.Rows L2
/-- what an own error's __init__ promises: the fields, in order -/
def spE (C : Addr) (fs : List Str) : Sp := fun vs H Q _ => ∃ (a : Addr) (xs : List V), vs = .ref a :: xs ∧ xs.length = fs.length ∧ H a = some (exo a C none) ∧
  ∀ (d : Addr) (H' : Hp), H d = none → d ≠ a → H' a = some (exo a C (some d)) → H' d = some (exd d (fs.zip xs).reverse) → (∀ b, b ≠ a → b ≠ d → H' b = H b) → Q .non H'
/-- an own error class that may be raised -/
def ErrOk (P : Program) (w : World) (K : PySem.W.Frag) (mg : Mg) (base : Heap) (x : Str) (k : Nat) (fs : List Str) : Prop :=
  ∃ C fI fd ps, mg x = some (.ref C) ∧ OexC K C ∧ PySem.W.findIn K (.ref C) "__init__" = some (some (.ref fI)) ∧ PySem.W.typeIn K (.ref fI) = some (.type "function") ∧ FnOk P w K mg base (L2.CX P w) k fI fd ps (spE C fs) ∧ Binds K fd ps []
def sRaise (x : Str) (fs : List Str) (ga : EA) : SS := fun sd μ => match ga sd μ with
  | none => none
  | some (.error e, μ1) => some (.exc e, sd, μ1)
  | some (.ok ds, μ1) => if ds.length = fs.length ∧ ds.length ≤ 1000 ∧ plainL ds = true then some (.exc ⟨x, (fs.zip ds).reverse⟩, sd, μ1) else none
section
variable {X : Cx} {H0 : Hp} {W : WX} {av θ : List Addr} {sd : Sl} {μ : Mem} {σ : L2.St} {H : Hp}
theorem repF_app {K : PySem.W.Frag} {mg : Mg} {f : Str} {d : D} {v : V} (r : rep K mg H0 av θ H d v) : ∀ {ds : List (Str × D)} {xs : List (Str × V)}, repF K mg H0 av θ H ds xs → repF K mg H0 av θ H (ds ++ [(f, d)]) (xs ++ [(f, v)])
  | [], xs, h => by
    have h : xs = [] := h
    subst h
    exact ⟨v, [], rfl, r, rfl⟩
  | (g, e) :: ds, xs, ⟨x, rr, q, h, t⟩ => by
    subst q
    exact ⟨x, rr ++ [(f, v)], rfl, h, repF_app r t⟩
theorem repF_zip {K : PySem.W.Frag} {mg : Mg} : ∀ (fs : List Str) {ds : List D} {xs : List V}, repL K mg H0 av θ H ds xs → repF K mg H0 av θ H (fs.zip ds).reverse (fs.zip xs).reverse
  | [], _, _, _ => rfl
  | f :: fs, [], xs, h => by
    have h : xs = [] := h
    subst h
    rfl
  | f :: fs, d :: ds, _, ⟨x, r, q, h, t⟩ => by
    subst q
    rw [List.zip_cons_cons, List.zip_cons_cons, List.reverse_cons, List.reverse_cons]
    exact repF_app h (repF_zip fs t)
theorem plainF_app : ∀ {ds : List (Str × D)} {f : Str} {d : D}, plainF ds = true → plain d = true → plainF (ds ++ [(f, d)]) = true
  | [], f, d, _, h => by show (plain d && plainF []) = true; rw [h]; rfl
  | (g, e) :: ds, f, d, h, h2 => by
    have h : (plain e && plainF ds) = true := h
    rw [Bool.and_eq_true] at h
    show (plain e && plainF (ds ++ [(f, d)])) = true
    rw [h.1, plainF_app h.2 h2]
    rfl
theorem plainF_zip : ∀ (fs : List Str) {ds : List D}, plainL ds = true → plainF (fs.zip ds).reverse = true
  | [], _, _ => rfl
  | f :: fs, [], _ => rfl
  | f :: fs, d :: ds, h => by
    have h : (plain d && plainL ds) = true := h
    rw [Bool.and_eq_true] at h
    rw [List.zip_cons_cons, List.reverse_cons]
    exact plainF_app (plainF_zip fs h.2) h.1
/-- raise C(e, ..) -/
theorem ps_raiseE {x : Str} {fs : List Str} {k j : Nat} {e : Expr} {es : List Expr} {ga : EA} {p pos pos2 : Pos} (R : ErrOk X.prog X.w X.K X.mg X.base x k fs) (hc : X.calm = true) (tk : Takes X W) (hr : Room j X.A) (ha : PA X (e :: es) (tA X.K X.mg H0 W ga))
    (hk : k + 1 ≤ j := by decide) (hg : Gl X x := by rfl) (hdb : (x == ("__debug__" : Str)) = false := by decide) (he : starEach (e :: es) X.env = (false, eval e X.env) :: starEach es X.env := by rfl) (hpl : (backTo pos (starEach es X.env)).any (·.1) = false := by rfl) :
    PS X (.Raise (some (.Call (.Name x p) (e :: es) [] pos)) none pos2) (tS X.K X.mg H0 W (sRaise x fs ga)) := by
  obtain ⟨C, fI, fd, ps, hm, T, iC, tI, F1, hb⟩ := R
  refine wkS (ps_raise hc tk (pmk_oex (dvs := []) T iC tI F1 (hr.mono hk) hb .nil passL hg hm ha hdb he hpl)) fun E σ H ⟨av, θ, sd, μ, R, P⟩ => ⟨av, θ, sd, μ, R, ?_⟩
  unfold sRaise at P
  match hq : ga sd μ, P with
  | none, P => exact P
  | some (.error x, μ1), P => exact fun cls dd θ' H' g' R' r => P cls dd σ θ' H' g' R' r
  | some (.ok ds, μ1), P =>
    intro vs θ1 H1 nv g1 R1 r1
    have R1 := R1.plain
    by_cases hd : ds.length = fs.length ∧ ds.length ≤ 1000 ∧ plainL ds = true
    case neg => simp only [if_neg hd] at P; exact P.elim
    simp only [if_pos hd] at P
    have hl := repL.length r1
    refine ⟨by omega, fun a ha => ⟨a, vs, by simp, by omega, upd_same, fun d H' h1 h2 h3 h4 h5 => ⟨rfl, d, _, h3, h4, ?_, ?_⟩⟩⟩
    · rw [upd_ne h2] at h1
      exact h1
    · rw [upd_ne h2] at h1
      have eH : upd (del H' a) d (.xd (fs.zip vs).reverse) = upd H1 d (.xd (fs.zip vs).reverse) := funext fun b => by
        by_cases hb : b = d
        · subst hb; rw [upd_same, upd_same]
        · rw [upd_ne hb, upd_ne hb]
          by_cases hb2 : b = a
          · subst hb2; rw [del_same, ha]
          · rw [del_ne hb2, h5 b hb2 hb, upd_ne hb2]
      rw [eH]
      have ex : Exh H1 (upd H1 d (.xd (fs.zip vs).reverse)) := Exh.new h1
      refine P _ _ σ θ1 _ (g1.trans (Gr.of_ex ex)) (R1.grow ex) (.inl ⟨C, d, _, hm, rfl, rfl, R1.notin h1, R1.notav h1, upd_same, plainF_zip fs hd.2.2, ?_⟩)
      exact repF_zip fs (repL.gr (Gr.of_ex ex) _ _ r1)
end
end DL
set_option Elab.async false
set_option linter.all false
set_option maxRecDepth 100000
/-! DL, part z: an own error of one, of two fields. -/
namespace DL
open PySem PySem.Spec PyProof.Rows L2 NdefX DLX
section
variable {P : Program} {w : World} {K : PySem.W.Frag} {mg : Mg} {base : Heap} {CX : CXT} {f D : Addr} {F : NF} {fd : FuncData} {ar : Arg} {s x y g h z : Str} {j : Nat} {p0 p1 p2 p3 p4 p5 p6 p7 p8 p9 q5 q6 q7 q8 q9 : Pos}
theorem errF1 (Z : SupI P K mg D f F fd) (T : OexC K D) (S : NScope [s, x, "__class__"] [s, x] ["__class__"] F.scope) (hp : (F.params.posonlyargs ++ F.params.args).head? = some ar) (hps : some s = some ar.arg)
    (hbody : F.body = [.Expr (.Call (.Attribute (.Call (.Name "super" p0) [] [] p1) "__init__" p2) [.Constant (.str z) j p5] [] p3) p4, .Assign [.Attribute (.Name s p6) g p7] (.Name x p8) p9])
    (hno : PySem.W.findIn K (.ref D) g = some none) (hs : (s == ("__debug__" : Str)) = false) (hs2 : (s == ("__classdict__" : Str)) = false) (hx : (x == ("__debug__" : Str)) = false) (hx2 : (x == ("__classdict__" : Str)) = false)
    (hev : ∀ env : Env, ∃ pl : Sem Bool, eval (.Call (.Attribute (.Call (.Name "super" p0) [] [] p1) "__init__" p2) [.Constant (.str z) j p5] [] p3) env = (do
      let ov ← attributeBase (.Call (.Name "super" p0) [] [] p1) "__init__" env (eval (.Call (.Name "super" p0) [] [] p1) env)
      standAt p2.atName
      let (f, first) ← holding [ov] (getMethod ov "__init__" pl)
      callWith p3 f first (backTo p3 (starEach [.Constant (.str z) j p5] env)) []) := by intro _; exact ⟨_, rfl⟩) :
    FnOk P w K mg base CX 1 f fd [s, x] (spE D [g]) := by
  refine init_ok Z T S hp hps hbody (fun vs H Q E q => ?_) (fun A outer s0 H vs Q E hr q => ?_) (hev := hev)
  · obtain ⟨a, xs, rfl, hl, _⟩ := q
    show xs.length + 1 = 2
    have : xs.length = 1 := hl
    omega
  · obtain ⟨a, xs, rfl, hl, ha, hq⟩ := q
    obtain ⟨v, rfl⟩ : ∃ v, xs = [v] := by
      match xs, hl with
      | [v], _ => exact ⟨v, rfl⟩
    have v0 : Vis F.scope s := Or.inl (S.par s (by simp))
    have v1 : Vis F.scope x := Or.inl (S.par x (by simp))
    refine ⟨a, [v], _, _, rfl, ha, pa_cons pe_str pa_nil, pss_one (ps_ost (pe_var (i := 0) rfl v0 hs hs2) (pe_var (i := 1) rfl v1 hx hx2)), ?_⟩
    refine ⟨by simp, ha, v, rfl, .ref a, rfl, a, D, rfl, T, hno, .inl ⟨ha, fun dx n ne => hq dx _ n ne ?_ ?_ fun b h1 h2 => ?_⟩⟩
    · exact upd_same
    · rw [upd_ne ne, upd_same]; rfl
    · rw [upd_ne h1, upd_ne h2]
theorem errF2 (Z : SupI P K mg D f F fd) (T : OexC K D) (S : NScope [s, x, y, "__class__"] [s, x, y] ["__class__"] F.scope) (hp : (F.params.posonlyargs ++ F.params.args).head? = some ar) (hps : some s = some ar.arg)
    (hbody : F.body = [.Expr (.Call (.Attribute (.Call (.Name "super" p0) [] [] p1) "__init__" p2) [.Constant (.str z) j p5] [] p3) p4, .Assign [.Attribute (.Name s p6) g p7] (.Name x p8) p9, .Assign [.Attribute (.Name s q6) h q7] (.Name y q8) q9])
    (hno : PySem.W.findIn K (.ref D) g = some none) (hno2 : PySem.W.findIn K (.ref D) h = some none) (hs : (s == ("__debug__" : Str)) = false) (hs2 : (s == ("__classdict__" : Str)) = false) (hx : (x == ("__debug__" : Str)) = false) (hx2 : (x == ("__classdict__" : Str)) = false)
    (hy : (y == ("__debug__" : Str)) = false) (hy2 : (y == ("__classdict__" : Str)) = false)
    (hev : ∀ env : Env, ∃ pl : Sem Bool, eval (.Call (.Attribute (.Call (.Name "super" p0) [] [] p1) "__init__" p2) [.Constant (.str z) j p5] [] p3) env = (do
      let ov ← attributeBase (.Call (.Name "super" p0) [] [] p1) "__init__" env (eval (.Call (.Name "super" p0) [] [] p1) env)
      standAt p2.atName
      let (f, first) ← holding [ov] (getMethod ov "__init__" pl)
      callWith p3 f first (backTo p3 (starEach [.Constant (.str z) j p5] env)) []) := by intro _; exact ⟨_, rfl⟩) :
    FnOk P w K mg base CX 1 f fd [s, x, y] (spE D [g, h]) := by
  refine init_ok Z T S hp hps hbody (fun vs H Q E q => ?_) (fun A outer s0 H vs Q E hr q => ?_) (hev := hev)
  · obtain ⟨a, xs, rfl, hl, _⟩ := q
    show xs.length + 1 = 3
    have : xs.length = 2 := hl
    omega
  · obtain ⟨a, xs, rfl, hl, ha, hq⟩ := q
    obtain ⟨v, u, rfl⟩ : ∃ v u, xs = [v, u] := by
      match xs, hl with
      | [v, u], _ => exact ⟨v, u, rfl⟩
    have v0 : Vis F.scope s := Or.inl (S.par s (by simp))
    have v1 : Vis F.scope x := Or.inl (S.par x (by simp))
    have v2 : Vis F.scope y := Or.inl (S.par y (by simp))
    refine ⟨a, [v, u], _, _, rfl, ha, pa_cons pe_str pa_nil, pss_cons (ps_ost (pe_var (i := 0) rfl v0 hs hs2) (pe_var (i := 1) rfl v1 hx hx2)) (pss_one (ps_ost (pe_var (i := 0) rfl v0 hs hs2) (pe_var (i := 2) rfl v2 hy hy2))), ?_⟩
    refine ⟨by simp, ha, v, rfl, .ref a, rfl, a, D, rfl, T, hno, .inl ⟨ha, fun dx n ne => ?_⟩⟩
    refine ⟨u, rfl, .ref a, rfl, a, D, rfl, T, hno2, .inr ⟨dx, [(g, v)], upd_same, ?_, by simp, ?_⟩⟩
    · rw [upd_ne ne, upd_same]
    · refine hq dx _ n ne ?_ upd_same fun b h1 h2 => ?_
      · rw [upd_ne (Ne.symm ne), upd_same]
      · rw [upd_ne h2, upd_ne h1, upd_ne h2]
end
end DL
set_option Elab.async false
set_option linter.all false
set_option maxRecDepth 100000
/-! DL, part p: try with several clauses, each with or without a name. -/
namespace DL
open PySem PySem.Spec PyProof.Rows L2
/-- a clause: its class, its name's slot, its suite's reading -/
structure Cl where
  c : Value
  nm : Option Nat
  ts : Addr → Value → Option Addr → TS
def Cl.ends (D : Ends) : Option Nat → Ends
  | none => D
  | some i => { nx := fun σ' H' => D.nx (σ'.set i none) H', rt := D.rt, bk := fun σ' H' => D.bk (σ'.set i none) H', ct := fun σ' H' => D.ct (σ'.set i none) H' }
def Cl.st (σ : L2.St) (a : Addr) : Option Nat → L2.St
  | none => σ
  | some i => σ.set i (some (.ref a))
def wCl (K : PySem.W.Frag) (Wo : WX) (D : Ends) : List Cl → WX
  | [] => Wo
  | q :: r => fun cls d σ H => ∃ b, PySem.W.exmOne K cls q.c = some b ∧ (b = true → ∀ a, H a = none → q.ts a cls d (Cl.ends D q.nm) (Cl.st σ a q.nm) H) ∧ (b = false → wCl K Wo D r cls d σ H)
inductive ClsOk (X : Cx) : List ExceptHandler → List Cl → Prop
  | nil : ClsOk X [] []
  | one {x : Str} {c : Value} {ts : Addr → Value → Option Addr → TS} {b₀ : Stmt} {su : List Stmt} {np p' : Pos} {hds : List ExceptHandler} {l : List Cl} (hc : Names X x c)
      (hsu : ∀ (a : Addr) (oe : Obj) (cls : Value) (d : Option Addr) (pn : List (Addr × Obj)), Zc cls d oe → (∃ vs, oe.data = .fields vs) → PSs (X.suite a ((a, oe) :: pn)) (b₀ :: su) (ts a cls d)) (r : ClsOk X hds l) :
      ClsOk X (.ExceptHandler (some (.Name x np)) none (b₀ :: su) p' :: hds) (⟨c, none, ts⟩ :: l)
  | as {x n : Str} {i : Nat} {c : Value} {ts : Addr → Value → Option Addr → TS} {b₀ : Stmt} {su : List Stmt} {np p' : Pos} {hds : List ExceptHandler} {l : List Cl} (hc : Names X x c) (hi : X.N[i]? = some n) (hln : X.env.kindOf n = some .local)
      (hsu : ∀ (a : Addr) (oe : Obj) (cls : Value) (d : Option Addr) (pn : List (Addr × Obj)), Zc cls d oe → (∃ vs, oe.data = .fields vs) → PSs (X.suite a ((a, oe) :: pn)) (b₀ :: su) (ts a cls d)) (r : ClsOk X hds l) :
      ClsOk X (.ExceptHandler (some (.Name x np)) (some n) (b₀ :: su) p' :: hds) (⟨c, some i, ts⟩ :: l)
section
variable {X : Cx} {body : List Stmt} {h₀ : ExceptHandler} {hds : List ExceptHandler} {l : List Cl} {pos : Pos} {tb : WX → TS} {Wo : WX}
theorem ps_tryC (hst : X.stack = X.env :: X.outer) (hfm : X.env.frame = some X.env.locals) (hN : X.N.Nodup) (tk : Takes X Wo)
    (hbd : ∀ (W : WX) (pn : List (Addr × Obj)) (xe : Value → Shared → Prop), Takes (X.tr pn xe) W → PassesOwn (model X.prog X.w) X.A X.env xe → PSs (X.tr pn xe) body (tb W))
    (hcl : ClsOk X (h₀ :: hds) l) : PS X (.Try body (h₀ :: hds) [] [] pos) (fun D σ H => tb (wCl X.K Wo D l) D σ H) := by
  refine ⟨fun pins s σ H D I hw => ?_⟩
  have okX := I.ok
  have frs' : X.A.frames = some (X.env :: X.outer) := okX.frames.trans (congrArg some hst)
  refine wpAny_Try_except (wpAny_mono ((hbd (wCl X.K Wo D l) (X.pn ++ pins) _ (fun u s' xx => ?_) PassesOwn.looking).run [] s σ H D (I.toTry _) hw) (fun fl s1 q => ?_) fun _ _ q => q)
  · obtain ⟨a, B, sI, pins', σ', H', cls, d, rfl, J', nb, up, sky, na, os, ag, w⟩ := xx
    have J : Inv X pins σ' H' sI := Inv.ofTry J' okX
    rw [hst] at sky
    show wpAny (model X.prog X.w) X.A (noteFrame (.ref a) X.env) _ _ _
    refine Sky.land Zc.steady frs' hfm sky fun g flG upG => ?_
    have JG : Inv X pins σ' H' { s' with heap := g } := J.landed nb flG.1 (up.trans upG) os ag
    obtain ⟨og, vg, hog, hzg, hdg⟩ := flG.there
    have out : a ∉ frs (X.env :: X.outer) := fun hm => by
      obtain ⟨_, o', e', hnf⟩ := flG.2.2.1.mem hm
      rw [hog] at e'
      cases e'
      exact hnf _ hdg
    have nL : a ≠ X.env.locals := fun z => out (List.mem_filterMap.mpr ⟨X.env, List.mem_cons_self, by rw [hfm, z]⟩)
    have nF : a ∉ X.fs := fun hm => let ⟨e, he, q⟩ := List.mem_filterMap.mp hm; out (List.mem_filterMap.mpr ⟨e, List.mem_cons_of_mem _ he, q⟩)
    have SG := JG.suite hog hdg na nL nF
    have walk : ∀ {hs' : List ExceptHandler} {l' : List Cl}, ClsOk X hs' l' → wCl X.K Wo D l' cls d σ' H' → wpAny (model X.prog X.w) X.A (handleBy (.ref a) X.env hs') (SP X pins D) X.xe { s' with heap := g } := by
      intro hs' l' hk
      have look : ∀ {x : Str} {c : Value} {np : Pos}, Names X x c → ∀ {Q : Value → Shared → Prop} {E : Value → Shared → Prop}, Q c { s' with heap := g } → wpAny (model X.prog X.w) (X.A.mark (some (.ref a))) (eval (.Name x np) X.env) Q E { s' with heap := g } := fun {x c np} hn {Q E} q => by
        obtain ⟨g1, g2, m1 | ⟨m1, m2, m3⟩⟩ := hn
        · exact ld_glob (X := X.suite a ((a, og) :: (X.pn ++ pins))) SG g1 m1 q g2
        · exact ld_blt (X := X.suite a ((a, og) :: (X.pn ++ pins))) SG g1 m1 m2 q m3 g2
      induction hk with
      | nil => exact fun w => PySem.PX.no_clauseZ hfm flG fun h4 hh4 up4 => tk _ _ ⟨a, B, sI, pins, σ', H', cls, d, rfl, J, nb, (up.trans upG).trans up4, .inr (.inr (by rw [hst]; exact hh4)), na, os, ag, w⟩
      | @one x c ts b₀ su np p' hds2 l2 hc hsu r ih =>
        intro ⟨b, hb1, yes, no⟩
        cases b with
        | false => exact PySem.PX.clause_passZ JG.kIn (fun o q => q.1) flG hb1 (look hc) (ih (no rfl))
        | true =>
          refine PySem.PX.clause_onlyZ JG.kIn (fun o q => q.1) flG hb1 (look hc) fun h4 fl4 up4 => ?_
          have J4 : Inv X pins σ' H' { s' with heap := h4 } := J.landed nb fl4.1 ((up.trans upG).trans up4) os ag
          obtain ⟨o4, v4, ho4, hz4, hd4⟩ := HandSPX.FlyingZ.there fl4
          refine wpAny_mono ((hsu a o4 cls d (X.pn ++ pins) hz4 ⟨_, hd4⟩).run [] _ _ H' _ (J4.suite ho4 hd4 na nL nF) (yes rfl a na)) (fun f s6 q => ?_) fun _ _ z => False.elim z
          cases f with
          | ret u => obtain ⟨v6, σ6, H6, S6, r6, q6⟩ := q; exact ⟨v6, σ6, H6, S6.unsuite okX, r6, q6⟩
          | next => obtain ⟨σ6, H6, S6, q6⟩ := q; exact ⟨σ6, H6, S6.unsuite okX, q6⟩
          | brk => obtain ⟨σ6, H6, S6, q6⟩ := q; exact ⟨σ6, H6, S6.unsuite okX, q6⟩
          | cont => obtain ⟨σ6, H6, S6, q6⟩ := q; exact ⟨σ6, H6, S6.unsuite okX, q6⟩
      | @as x n i c ts b₀ su np p' hds2 l2 hc hi hln hsu r ih =>
        intro ⟨b, hb1, yes, no⟩
        cases b with
        | false => exact PySem.PX.clause_passZ JG.kIn (fun o q => q.1) flG hb1 (look hc) (ih (no rfl))
        | true =>
          refine PySem.PX.clause_asZ JG.kIn (fun o q => q.1) flG hb1 (look hc) fun h4 fl4 up4 => ?_
          have J4 : Inv X pins σ' H' { s' with heap := h4 } := J.landed nb fl4.1 ((up.trans upG).trans up4) os ag
          obtain ⟨o4, v4, ho4, hz4, hd4⟩ := HandSPX.FlyingZ.there fl4
          refine store_ok (X := X.suite a ((a, o4) :: (X.pn ++ pins))) (v := .ref a) (J4.suite ho4 hd4 na nL nF) hN hi (.inl hln) rfl (fun s5 S5 => ?_) (.inr hln)
          refine wpAny_mono ((hsu a o4 cls d (X.pn ++ pins) hz4 ⟨_, hd4⟩).run [] s5 _ H' _ S5 (yes rfl a na)) (fun f s6 q => ?_) fun _ _ z => False.elim z
          cases f with
          | ret u => obtain ⟨v6, σ6, H6, S6, r6, q6⟩ := q; exact gone_ok (S6.unsuite okX) hN hi hln fun s7 J7 => ⟨v6, _, H6, J7, r6, q6⟩
          | next => obtain ⟨σ6, H6, S6, q6⟩ := q; exact gone_ok (S6.unsuite okX) hN hi hln fun s7 J7 => ⟨_, H6, J7, q6⟩
          | brk => obtain ⟨σ6, H6, S6, q6⟩ := q; exact gone_ok (S6.unsuite okX) hN hi hln fun s7 J7 => ⟨_, H6, J7, q6⟩
          | cont => obtain ⟨σ6, H6, S6, q6⟩ := q; exact gone_ok (S6.unsuite okX) hN hi hln fun s7 J7 => ⟨_, H6, J7, q6⟩
    exact walk hcl w
  · cases fl with
    | ret u => obtain ⟨v, σ', H', J', r, q⟩ := q; exact ⟨v, σ', H', J'.ofTry okX, r, q⟩
    | next => obtain ⟨σ', H', J', q⟩ := q; exact wpAny_execs_nil ⟨σ', H', J'.ofTry okX, q⟩
    | brk => obtain ⟨σ', H', J', q⟩ := q; exact ⟨σ', H', J'.ofTry okX, q⟩
    | cont => obtain ⟨σ', H', J', q⟩ := q; exact ⟨σ', H', J'.ofTry okX, q⟩
end
end DL
set_option Elab.async false
set_option linter.all false
set_option maxRecDepth 100000
/-! DL, part q: try, plainly. -/
namespace DL
open PySem PySem.Spec PyProof.Rows L2
/-- a class by its name -/
def ClsVal (mg : Mg) (x : Str) (c : Value) : Prop := mg x = some c ∨ (mg x = none ∧ bootBuiltins x = some c ∧ x ≠ "__name__")
/-- the table of which class is caught by which -/
def ExT (K : PySem.W.Frag) (mg : Mg) (T : Str → Str → Option Bool) : Prop := ∀ x y b, T x y = some b → (∃ c, mg x = some (.ref c)) ∧ ∀ cx cy, mg x = some cx → ClsVal mg y cy → PySem.W.exmOne K cx cy = some b
/-- a clause: the class's name, the slot of its name, its suite: of where the exception and its dict lie, of the exception -/
structure Hd where
  x : Str
  nm : Option Nat
  su : Addr → Addr → Exn → SS
def finS (i : Nat) (r : SR) : SR := match r with
  | none => none
  | some (.exc _, _, _) => none
  | some (f, sd, μ) => some (f, sd.set i none, μ)
def noX (r : SR) : SR := match r with
  | some (.exc _, _, _) => none
  | r => r
noncomputable def pickS (T : Str → Str → Option Bool) : List Hd → Exn → SS
  | [], e => fun sd μ => some (.exc e, sd, μ)
  | h :: r, e => match T e.cls h.x with
    | none => fun _ _ => none
    | some false => pickS T r e
    | some true => fun sd μ => match h.nm with
      | none => when_ (∀ a d, h.su a d e sd μ = h.su 0 0 e sd μ) (noX (h.su 0 0 e sd μ))
      | some i => when_ (∀ a d, finS i (h.su a d e (sd.set i (some (.exh a d e.cls e.fs))) μ) = finS i (h.su 0 0 e (sd.set i (some (.exh 0 0 e.cls e.fs))) μ)) (finS i (h.su 0 0 e (sd.set i (some (.exh 0 0 e.cls e.fs))) μ))
noncomputable def sTry (T : Str → Str → Option Bool) (body : SS) (hs : List Hd) : SS := fun sd μ => match body sd μ with
  | some (.exc e, sd1, μ1) => pickS T hs e sd1 μ1
  | r => r
/-- what a suite's derivation is given -/
def SuiteAt (X : Cx) (H0 : Hp) (st : List Stmt) (su : Addr → Addr → Exn → SS) : Prop :=
  ∀ (a : Addr) (oe : Obj) (c dd : Addr) (e : Exn) (pn : List (Addr × Obj)), X.mg e.cls = some (.ref c) → Zc (.ref c) (some dd) oe → (∃ vs, oe.data = .fields vs) → PSs (X.suite a ((a, oe) :: pn)) st (tS X.K X.mg H0 WF (su a dd e))
def tSu (X : Cx) (H0 : Hp) (su : Addr → Addr → Exn → SS) : Addr → Value → Option Addr → TS := fun a cls d D σ H => ∃ (e : Exn) (c dd : Addr), X.mg e.cls = some (.ref c) ∧ cls = .ref c ∧ d = some dd ∧ tS X.K X.mg H0 WF (su a dd e) D σ H
inductive HdsAt (X : Cx) (H0 : Hp) : List ExceptHandler → List Hd → List Cl → Prop
  | nil : HdsAt X H0 [] [] []
  | one {x : Str} {c : Value} {su : Addr → Addr → Exn → SS} {b₀ : Stmt} {st : List Stmt} {np p' : Pos} {hds : List ExceptHandler} {l : List Hd} {l2 : List Cl} (hc : Names X x c) (hs : SuiteAt X H0 (b₀ :: st) su) (r : HdsAt X H0 hds l l2) :
      HdsAt X H0 (.ExceptHandler (some (.Name x np)) none (b₀ :: st) p' :: hds) (⟨x, none, su⟩ :: l) (⟨c, none, tSu X H0 su⟩ :: l2)
  | as {x n : Str} {i : Nat} {c : Value} {su : Addr → Addr → Exn → SS} {b₀ : Stmt} {st : List Stmt} {np p' : Pos} {hds : List ExceptHandler} {l : List Hd} {l2 : List Cl} (hc : Names X x c) (hi : X.N[i]? = some n) (hln : X.env.kindOf n = some .local) (hs : SuiteAt X H0 (b₀ :: st) su)
      (r : HdsAt X H0 hds l l2) : HdsAt X H0 (.ExceptHandler (some (.Name x np)) (some n) (b₀ :: st) p' :: hds) (⟨x, some i, su⟩ :: l) (⟨c, some i, tSu X H0 su⟩ :: l2)
section
variable {X : Cx} {H0 : Hp} {W : WX} {av θ : List Addr} {sd : Sl} {μ : Mem} {σ : L2.St} {H : Hp}
theorem suite_ps {st : List Stmt} {su : Addr → Addr → Exn → SS} (h : SuiteAt X H0 st su) (a : Addr) (oe : Obj) (cls : Value) (d : Option Addr) (pn : List (Addr × Obj)) (hz : Zc cls d oe) (hf : ∃ vs, oe.data = .fields vs) :
    PSs (X.suite a ((a, oe) :: pn)) st (tSu X H0 su a cls d) := by
  refine ⟨fun pins s σ H D I ⟨e, c, dd, hm, e1, e2, q⟩ => ?_⟩
  subst e1 e2
  exact (h a oe c dd e pn hm hz hf).run pins s σ H D I q
theorem HdsAt.ok {hds : List ExceptHandler} {l : List Hd} {l2 : List Cl} (h : HdsAt X H0 hds l l2) : ClsOk X hds l2 := by
  induction h with
  | nil => exact .nil
  | one hc hs r ih => exact .one hc (fun a oe cls d pn hz hf => suite_ps hs a oe cls d pn hz hf) ih
  | as hc hi hln hs r ih => exact .as hc hi hln (fun a oe cls d pn hz hf => suite_ps hs a oe cls d pn hz hf) ih
/-- the clauses take what they are to take -/
theorem pick_ok {T : Str → Str → Option Bool} (hT : ExT X.K X.mg T) {E : Ends} {e : Exn} {cls : Value} {dd : Option Addr} {hds : List ExceptHandler} {l : List Hd} {l2 : List Cl} (hk : HdsAt X H0 hds l l2) (R : RS X.K X.mg H0 av θ sd μ σ H)
    (r : repX X.K X.mg H0 av θ H e cls dd) (hown : ∃ c, X.mg e.cls = some (.ref c)) (P : PostS X.K X.mg H0 W av θ H E (pickS T l e sd μ)) : wCl X.K W E l2 cls dd σ H := by
  obtain ⟨c, d, vs, h1, h2, h3, n, m, h4, hp, hr⟩ : ∃ c d vs, X.mg e.cls = some (.ref c) ∧ cls = .ref c ∧ dd = some d ∧ d ∉ θ ∧ d ∉ av ∧ H d = some (.xd vs) ∧ plainF e.fs = true ∧ repF X.K X.mg H0 av θ H e.fs vs := by
    rcases r with r | ⟨_, _, q, _⟩
    · exact r
    · obtain ⟨c, hc⟩ := hown
      rw [q] at hc
      cases hc
  subst h2 h3
  have nv : ∀ {x : Str} {c : Value}, Names X x c → ClsVal X.mg x c := fun ⟨_, _, q⟩ => q
  induction hk with
  | nil => exact P (.ref c) (some d) σ θ H Gr.refl R (.inl ⟨c, d, vs, h1, rfl, rfl, n, m, h4, hp, hr⟩)
  | @one x cc su b₀ st np p' hds l l2 hc hs hr' ih =>
    unfold pickS at P
    cases hb : T e.cls x with
    | none => rw [hb] at P; exact P.elim
    | some b =>
      rw [hb] at P
      refine ⟨b, (hT _ _ _ hb).2 _ _ h1 (nv hc), fun q a ha => ?_, fun q => ?_⟩
      · subst q
        simp only at P
        cases hw : when_ (∀ a d, su a d e sd μ = su 0 0 e sd μ) (noX (su 0 0 e sd μ)) with
        | none => rw [hw] at P; exact P.elim
        | some z =>
          rw [hw] at P
          obtain ⟨q1, q2⟩ := when_some hw
          refine ⟨e, c, d, h1, rfl, rfl, av, θ, sd, μ, R, ?_⟩
          rw [q1 a d]
          unfold noX at q2
          split at q2
          · cases q2
          · rw [q2]
            rename_i hne
            obtain ⟨f, sd2, μ2⟩ := z
            cases f with
            | exc e => exact absurd q2 (hne _ _ _)
            | _ => exact P
      · subst q
        exact ih P
  | @as x nn i cc su b₀ st np p' hds l l2 hc hi hln hs hr' ih =>
    unfold pickS at P
    cases hb : T e.cls x with
    | none => rw [hb] at P; exact P.elim
    | some b =>
      rw [hb] at P
      refine ⟨b, (hT _ _ _ hb).2 _ _ h1 (nv hc), fun q a ha => ?_, fun q => ?_⟩
      · subst q
        simp only at P
        cases hw : when_ (∀ a d, finS i (su a d e (sd.set i (some (.exh a d e.cls e.fs))) μ) = finS i (su 0 0 e (sd.set i (some (.exh 0 0 e.cls e.fs))) μ)) (finS i (su 0 0 e (sd.set i (some (.exh 0 0 e.cls e.fs))) μ)) with
        | none => rw [hw] at P; exact P.elim
        | some z =>
          rw [hw] at P
          obtain ⟨q1, q2⟩ := when_some hw
          rw [← q1 a d] at q2
          have R2 : RS X.K X.mg H0 av θ (sd.set i (some (.exh a d e.cls e.fs))) μ (σ.set i (some (.ref a))) H := R.set i ⟨c, vs, rfl, n, m, h1, h4, hr⟩
          refine ⟨e, c, d, h1, rfl, rfl, av, θ, _, μ, R2, ?_⟩
          generalize su a d e (sd.set i (some (.exh a d e.cls e.fs))) μ = o at q2
          match o, q2 with
          | some (.nx, sd2, μ2), q2 => cases q2; exact fun σ' θ' H' g R' => P _ θ' H' g (R'.unset i)
          | some (.brk, sd2, μ2), q2 => cases q2; exact fun σ' θ' H' g R' => P _ θ' H' g (R'.unset i)
          | some (.ct, sd2, μ2), q2 => cases q2; exact fun σ' θ' H' g R' => P _ θ' H' g (R'.unset i)
          | some (.ret d, sd2, μ2), q2 => cases q2; exact P
      · subst q
        exact ih P
/-- try -/
theorem ps_tryD {T : Str → Str → Option Bool} (hT : ExT X.K X.mg T) {body : List Stmt} {h₀ : ExceptHandler} {hds : List ExceptHandler} {l : List Hd} {l2 : List Cl} {pos : Pos} {fs : SS} (hst : X.stack = X.env :: X.outer) (hfm : X.env.frame = some X.env.locals) (hN : X.N.Nodup) (tk : Takes X W)
    (hbd : ∀ (W2 : WX) (pn : List (Addr × Obj)) (xe : Value → Shared → Prop), Takes (X.tr pn xe) W2 → PassesOwn (model X.prog X.w) X.A X.env xe → PSs (X.tr pn xe) body (tS X.K X.mg H0 W2 fs))
    (hk : HdsAt X H0 (h₀ :: hds) l l2) :
    PS X (.Try body (h₀ :: hds) [] [] pos) (tS X.K X.mg H0 W (sTry T fs l)) := by
  refine wkS (ps_tryC (Wo := W) hst hfm hN tk hbd hk.ok) fun E σ H ⟨av, θ, sd, μ, R, P⟩ => ⟨av, θ, sd, μ, R, ?_⟩
  unfold sTry at P
  match hq : fs sd μ, P with
  | none, P => exact P
  | some (.nx, sd1, μ1), P => exact P
  | some (.brk, sd1, μ1), P => exact P
  | some (.ct, sd1, μ1), P => exact P
  | some (.ret d, sd1, μ1), P => exact P
  | some (.exc e, sd1, μ1), P =>
    intro cls dd σ' θ' H' g R' r
    refine pick_ok hT hk R' r ?_ (PostS.rebase P g)
    have own : ∀ {q : Hd} {l' : List Hd}, PostS X.K X.mg H0 W av θ H E (pickS T (q :: l') e sd1 μ1) → ∃ c, X.mg e.cls = some (.ref c) := fun {q l'} P => by
      unfold pickS at P
      cases hb : T e.cls q.x with
      | none => rw [hb] at P; exact P.elim
      | some b => exact (hT _ _ _ hb).1
    cases hk with
    | one hc hs r => exact own P
    | as hc hi hln hs r => exact own P
end
end DL
set_option Elab.async false
set_option linter.all false
set_option maxRecDepth 100000
/-! DL, part r: what a suite asks of the exception. -/
namespace DLX
open PySem PySem.Spec PyProof.Rows PySem.W PySem.Calls L2
section
variable {prog : Program} {w : World} {A : Around} {E : Value → Shared → Prop} {s : Shared} {K : Frag} {x C : Addr} {ox : Obj} {od : Option Obj}
/-- the class object.__class__ answers, an own dict or none -/
theorem find_class (z : ExcC K C) : findObj K C od "__class__" = some (.bind (.builtin "getset_descriptor.__get__") (.builtin "object.__class__")) := by
  obtain ⟨cd, h1, _⟩ := any_some z.hd
  unfold findObj
  rw [h1, Option.bind_some, z.ha, Option.bind_some]
  simp [z.hn, z.ht]
theorem ask_class {Q : Option Value → Shared → Prop} (z : ExcC K C) (kin : K.In s.heap) (at_ : InstAt s.heap x ox C od) (q : Q (some (.ref C)) { s with toks := s.toks + 1 }) : wpAny (model prog w) A (getAttr? (.ref x) "__class__") Q E s := by
  obtain ⟨hp, gs, dr, tk, os⟩ := s
  have t0 := at_.type (M := model prog w)
  have t1 := looks_findIn (M := model prog w) kin z.hg
  have t2 := looks_findIn (M := model prog w) kin z.hk
  have t3 := looks_find (M := model prog w) kin at_ (find_class (od := od) z)
  have t4 : Looks (model prog w) hp (isInstance (.ref x) (.type "BaseException")) true := t0.andThen (looks_subIn kin z.hs)
  have n1 : (Value.builtin "BaseException.__getattribute__" == Value.builtin "object.__getattribute__") = false := by decide +kernel
  have n2 : (onTheHeap (Value.ref C) && Value.builtin "BaseException.__getattribute__" == Value.builtin "object.__getattribute__") = false := by rw [n1, Bool.and_false]
  unfold getAttr? getAttrBy? getAttrBy
  refine wpAny_bind (wpAny_mkText (wpAny_bind (wpAny_attempt (wpAny_holding (wpAny_bind (t0.at (wpAny_bind (t1.at ?_))))))))
  show wpAny _ _ (if (onTheHeap (Value.ref C) && Value.builtin "BaseException.__getattribute__" == Value.builtin "object.__getattribute__") = true then _ else _) _ _ _
  rw [n2, if_neg Bool.false_ne_true]
  unfold getAttrByItsOwn hookBefore
  refine wpAny_bind ?_
  rw [if_pos (show onTheHeap (Value.ref C) = true from rfl)]
  refine t2.at (wpAny_bind (wpAny_attempt (wpAny_holding ?_)))
  unfold callGetattribute
  rw [show (false && onTheHeap (Value.builtin "BaseException.__getattribute__")) = false from rfl, if_neg Bool.false_ne_true]
  unfold boundAndCalled
  rw [PySem.F.excAttr_ValueError.ga.bind (.ref x)]
  refine wpAny_bind (wpAny_pure ?_)
  show wpAny _ _ (call (.builtin "BaseException.__getattribute__") [.ref x, .str "__class__" tk]) _ _ _
  refine wpAny_call (codeAny_call_builtin PySem.F.excAttr_ValueError.ga.plain PySem.F.entry_bexc_ga (@check_slot (model prog w) _ _ ⟨hp, gs, dr, tk + 1, os⟩ "BaseException.__getattribute__" "BaseException" "__getattribute__" (.ref x) [.str "__class__" tk] [] _ (by decide +kernel) (by decide +kernel) t4 (PySem.F.args_bexc_ga (.ref x) (.str "__class__" tk)) ?_))
  unfold Builtin.«object.__getattribute__»
  refine wpAny_bind (wpAny_of_eq (a := ((Value.ref x : Value), [Value.str "__class__" tk])) (by first | rfl | (simp only [slotArgs]; rfl)) (wpAny_bind (wpAny_pure (wpAny_bind (t0.at (wpAny_bind (t3.at ?_)))))))
  show wpAny _ _ (holding [Value.builtin "object.__class__"] (call (.builtin "getset_descriptor.__get__") [.builtin "object.__class__", .ref x, .ref C]) >>= ret) _ _ _
  refine wpAny_bind (wpAny_holding (wpAny_call (class_get (s := ⟨hp, gs, dr, tk + 1, os⟩) (ox := ox) (od := od) kin at_ z.hm (wpAny_pure ?_))))
  show wpAny _ _ (handedOut (.ref C)) _ _ _
  rw [handedOut_of (v := .ref C) rfl]
  first
    | exact wpAny_pure (wpAny_pure q)
    | exact wpAny_pure q
    | exact wpAny_pure (wpAny_bind (wpAny_pure (wpAny_pure q)))
theorem kitx (z : ExcC K C) : KitX K (.ref x) (.ref C) (fun h => InstAt h x ox C od) where
  ty := fun _ _ _ at_ => at_.type
  it := fun _ _ kin _ => by
    obtain ⟨cd, hc, _⟩ := any_some z.hd
    unfold clsIn at hc
    split at hc
    · rename_i ho
      intro A' Q' E' s' k q
      unfold isType loadHead
      exact wpAny_bind (wpAny_loadPart (k _ _ (kin _ _ ho)) (wpAny_pure q))
    · cases hc
  ne := fun h tp dd its n sl kin htp => by
    obtain ⟨cd, hc, _⟩ := any_some z.hd
    refine Bool.eq_false_iff.mpr fun q => ?_
    obtain rfl : C = tp := Value.ref.inj (beq_iff_eq.mp q)
    unfold clsIn at hc
    split at hc
    · rename_i ho
      have := (kin _ _ ho).symm.trans htp
      cases this
    · cases hc
  ca := fun kin at_ k => ask_class z kin at_ k
end
end DLX
namespace DL
open PySem PySem.Spec PyProof.Rows L2
def eXf (xfT : Str → Str → Bool) (a d : Addr) (e : Exn) (f : Str) (fo : EE) : EE := fun sd μ => if xfT e.cls f = true then bE (fo sd μ) fun x μ1 => match x with
  | .exh b c C fs => if b = a ∧ c = d ∧ C = e.cls then (fs.lookup f).bind fun v => if notNew v = true then some (.ok v, μ1) else none else none
  | _ => none
  else none
def XfT (K : PySem.W.Frag) (mg : Mg) (T : Str → Str → Bool) : Prop := ∀ x f, T x f = true → ∀ c, mg x = some (.ref c) → XfC K c ∧ PySem.W.findIn K (.ref c) f = some none
section
variable {X : Cx} {H0 : Hp} {av θ : List Addr} {sd : Sl} {μ : Mem} {σ : L2.St} {H : Hp}
theorem repF_look {K : PySem.W.Frag} {mg : Mg} {f : Str} {d : D} : ∀ {ds : List (Str × D)} {xs : List (Str × V)}, repF K mg H0 av θ H ds xs → ds.lookup f = some d → ∃ v, xs.lookup f = some v ∧ rep K mg H0 av θ H d v
  | [], _, _, q => by cases q
  | (g, e) :: ds, _, ⟨x, rr, hx, h, t⟩, q => by
    subst hx
    simp only [List.lookup] at q ⊢
    split at q
    · cases q
      exact ⟨x, rfl, h⟩
    · exact repF_look t q
theorem pd_xf {T : Str → Str → Bool} (hT : XfT X.K X.mg T) {a c dd : Addr} {oe : Obj} {e : Exn} {pn : List (Addr × Obj)} {ex : Expr} {fo : EE} {pos : Pos} {n : Str} (hm : X.mg e.cls = some (.ref c)) (hz : Zc (.ref c) (some dd) oe) (hf : ∃ vs, oe.data = .fields vs)
    (he : PE (X.suite a ((a, oe) :: pn)) ex (tE X.K X.mg H0 WF fo)) (hb : attributeBase ex n X.env (eval ex X.env) = eval ex X.env := by rfl) :
    PE (X.suite a ((a, oe) :: pn)) (.Attribute ex n pos) (tE X.K X.mg H0 WF (eXf T a dd e n fo)) := by
  by_cases hx : T e.cls n = true
  case neg =>
    refine wkE (t := fun _ _ _ => False) ⟨fun _ _ _ _ _ _ q => q.elim⟩ fun σ H Q ⟨av, θ, sd, μ, R, P⟩ => ?_
    unfold eXf at P
    rw [if_neg hx] at P
    exact P
  case pos =>
    obtain ⟨h1, h2⟩ := hT _ _ hx _ hm
    refine wkE (pe_xf h1 h2 hz hf he hb) fun σ H Q ⟨av, θ, sd, μ, R, P⟩ => ⟨av, θ, sd, μ, R, ?_⟩
    unfold eXf at P
    rw [if_pos hx] at P
    refine P.bind antiD fun x μ1 v θ1 H1 nv g R1 r1 P1 => ?_
    cases x with
    | exh b c' C fs =>
      have P2 : Post X.K X.mg H0 WF (relD X.K X.mg H0) av θ1 sd σ H1 Q (if b = a ∧ c' = dd ∧ C = e.cls then (fs.lookup n).bind fun v => if notNew v = true then some (.ok v, μ1) else none else none) := P1
      by_cases q : b = a ∧ c' = dd ∧ C = e.cls
      case neg => rw [if_neg q] at P2; exact P2.elim
      rw [if_pos q] at P2
      obtain ⟨rfl, rfl, rfl⟩ := q
      cases hl : fs.lookup n with
      | none => rw [hl] at P2; exact P2.elim
      | some y =>
        rw [hl] at P2
        obtain ⟨c2, vs, ev, n1, n2, hc2, t, r⟩ := r1.1
        obtain ⟨u, lu, ru⟩ := repF_look r hl
        have P3 : Post X.K X.mg H0 WF (relD X.K X.mg H0) av θ1 sd σ H1 Q (if notNew y = true then some (.ok y, μ1) else none) := P2
        by_cases hn : notNew y = true
        case neg => rw [if_neg hn] at P3; exact P3.elim
        rw [if_pos hn] at P3
        refine ⟨ev, rfl, _, vs, u, rfl, t, lu, P3 u θ1 H1 [] Gr.refl R1.plain ⟨ru, fun ds q => ?_⟩⟩
        subst q
        cases hn
    | _ => exact P1.elim
/-- isinstance(e, C) -/
def gIsE (T : Str → Str → Option Bool) (T2 : Str → String → Option Bool) (a d : Addr) (C : Str) : Mem → List D → Option D := fun _ ds => match ds with
  | [.exh b c C' _, .glob y] => if b = a ∧ c = d ∧ C' = C then (T C y).map .bl else none
  | [.exh b c C' _, .ty y] => if b = a ∧ c = d ∧ C' = C then (T2 C y).map .bl else none
  | _ => none
def KiT (K : PySem.W.Frag) (mg : Mg) (T : Str → Str → Option Bool) (T2 : Str → String → Option Bool) : Prop := (∀ x y b, T x y = some b → ∀ c, mg x = some (.ref c) → ExcC K c ∧ ∀ e, mg y = some (.ref e) → PySem.W.kitOne K (.ref c) (.ref e) = some b) ∧
  ∀ x (y : String) b, T2 x y = some b → ∀ c, mg x = some (.ref c) → ExcC K c ∧ PySem.W.kitOne K (.ref c) (.type y) = some b
def rIsD (K : PySem.W.Frag) (c a dd : Addr) : List V → Hp → VK → Prop := fun xs H Q => ∃ (v : V) (cv : Value) (b : Bool) (fs : List (Str × V)), xs = [.ref a, v] ∧ (∀ u, RelV v u → u = cv) ∧ ExcC K c ∧ PySem.W.kitOne K (.ref c) cv = some b ∧ H dd = some (.xd fs) ∧ Q (.bl b) H
theorem call_isD {a c dd : Addr} {oe : Obj} {pn : List (Addr × Obj)} (hz : Zc (.ref c) (some dd) oe) (hf : ∃ vs, oe.data = .fields vs) : CallR (X.suite a ((a, oe) :: pn)) (.builtin "isinstance") (rIsD X.K c a dd) := by
  intro pins s σ H xs us Q I r ⟨v, cv, b, fs, e1, hcv, hC, hk, hd, q⟩
  subst e1
  cases r with
  | cons rx rr =>
    cases rr with
    | cons rt rr =>
      cases rr
      cases rx
      obtain rfl := hcv _ rt
      obtain ⟨ho, _⟩ := I.pin (a, oe) (List.mem_append.mpr (.inl List.mem_cons_self))
      obtain ⟨vs, hv⟩ := hf
      obtain ⟨mA, hns, _⟩ := (show ObjOk X.prog X.w H s.heap dd (.xd fs) from I.hok dd _ hd)
      obtain ⟨od, ho2, _⟩ := lookIn_ns hns
      have J : PySem.W.InstAt s.heap a oe c (some od) := ⟨ho, hz.1, by unfold PySem.W.notCls; rw [hv] <;> rfl, by rw [hz.2]; exact ho2⟩
      exact PySem.W.kia_one (DLX.kitx hC) I.kIn J hk (fun z => nomatch z) fun tk => ⟨.bl b, H, I.kept (t' := tk) fun _ _ z => z, rfl, q⟩
theorem cd_isE {T : Str → Str → Option Bool} {T2 : Str → String → Option Bool} (hT : KiT X.K X.mg T T2) {a c dd : Addr} {oe : Obj} {e : Exn} {pn : List (Addr × Obj)} (hm : X.mg e.cls = some (.ref c)) (hz : Zc (.ref c) (some dd) oe) (hf : ∃ vs, oe.data = .fields vs) :
    CallD (X.suite a ((a, oe) :: pn)) (.builtin "isinstance") (gIsE T T2 a dd e.cls) := fun H0 => ⟨_, call_isD hz hf, fun av θ sd μ σ H ds xs d Q R rx hg q => by
  unfold gIsE at hg
  split at hg
  · split at hg
    · rename_i b c' C' fs y h
      obtain ⟨rfl, rfl, rfl⟩ := h
      cases hb : T e.cls y with
      | none => rw [hb] at hg; cases hg
      | some k =>
        rw [hb] at hg
        cases hg
        obtain ⟨h1, h2⟩ := hT.1 _ _ _ hb _ hm
        obtain ⟨x, r1, e1, hx, x2, r2, e2, hy, e3⟩ := rx
        subst e1 e2
        have e3 : r2 = [] := e3
        subst e3
        obtain ⟨c2, vs, ev, n1, n2, hc2, t, r⟩ := hx
        obtain ⟨ya, ey, my⟩ := hy
        subst ev ey
        exact ⟨.ref ya, .ref ya, k, vs, rfl, fun u hu => hu, h1, h2 _ my, t, q.same R rfl (fun _ z => by cases z)⟩
    · cases hg
  · split at hg
    · rename_i b c' C' fs y h
      obtain ⟨rfl, rfl, rfl⟩ := h
      cases hb : T2 e.cls y with
      | none => rw [hb] at hg; cases hg
      | some k =>
        rw [hb] at hg
        cases hg
        obtain ⟨h1, h2⟩ := hT.2 _ _ _ hb _ hm
        obtain ⟨x, r1, e1, hx, x2, r2, e2, hy, e3⟩ := rx
        subst e1 e2
        have e3 : r2 = [] := e3
        subst e3
        obtain ⟨c2, vs, ev, n1, n2, hc2, t, r⟩ := hx
        have hy : x2 = .ty y := hy
        subst ev hy
        exact ⟨.ty y, .type y, k, vs, rfl, fun u hu => hu, h1, h2, t, q.same R rfl (fun _ z => by cases z)⟩
    · cases hg
  · cases hg⟩
/-- a class of the text, by its name -/
theorem pd_cls {W : WX} {x : Str} {pos : Pos} (h : ∃ a, X.mg x = some (.ref a)) (hg : Gl X x := by rfl) (hd : (x == ("__debug__" : Str)) = false := by decide) : PE X (.Name x pos) (tE X.K X.mg H0 W (eC (.glob x))) := by
  obtain ⟨a, ha⟩ := h
  exact pd_c (pe_glob (v := .ref a) hg ha rfl hd) (fun _ _ _ => ⟨a, rfl, ha⟩) (fun _ e => by cases e)
end
end DL
set_option Elab.async false
set_option linter.all false
set_option maxRecDepth 100000
/-! DL, part s: while, with at most n rounds. -/
namespace DL
open PySem PySem.Spec PyProof.Rows L2
def whF (t : ET) (b u : SS) : Nat → SS
  | 0, _, _ => none
  | n + 1, sd, μ => match t sd μ with
    | none => none
    | some (.error e, μ1) => some (.exc e, sd, μ1)
    | some (.ok false, μ1) => u sd μ1
    | some (.ok true, μ1) => match b sd μ1 with
      | some (.nx, sd2, μ2) => whF t b u n sd2 μ2
      | some (.ct, sd2, μ2) => whF t b u n sd2 μ2
      | some (.brk, sd2, μ2) => some (.nx, sd2, μ2)
      | r => r
section
variable {X : Cx} {H0 : Hp} {W : WX} {t : ET} {fs gs : SS}
theorem ps_whileD (n : Nat) {c : Expr} {body orelse : List Stmt} {pos : Pos} (hp : PassesOwn (model X.prog X.w) X.A X.env X.xe) (hc : PT X c (tT X.K X.mg H0 W t)) (hb : PSs X body (tS X.K X.mg H0 W fs)) (ho : PSs X orelse (tS X.K X.mg H0 W gs)) :
    PS X (.While c body orelse pos) (tS X.K X.mg H0 W (whF t fs gs n)) := by
  refine wkS (ps_whileE hp hc hb ho) fun E σ H ⟨av, θ, sd, μ, R, P⟩ => ?_
  refine ⟨fun m σi Hi => ∃ θi sdi μi, Gr θ θi H Hi ∧ RS X.K X.mg H0 av θi sdi μi σi Hi ∧ PostS X.K X.mg H0 W av θi Hi E (whF t fs gs m sdi μi), ⟨n, θ, sd, μ, Gr.refl, R, P⟩, ?_⟩
  rintro m σi Hi ⟨θi, sdi, μi, gi, Ri, Pi⟩
  cases m with
  | zero => exact Pi.elim
  | succ m =>
    unfold whF at Pi
    refine ⟨av, θi, sdi, μi, Ri, ?_⟩
    match hq : t sdi μi, Pi with
    | none, Pi => exact Pi
    | some (.error e, μ1), Pi => exact fun cls dd θ' H' g' R' r => Pi cls dd σi θ' H' g' R' r
    | some (.ok false, μ1), Pi =>
      intro y θ' H' nv g' R' hy
      have hy : y = false := hy
      subst hy
      exact ⟨av, θ', sdi, μ1, R'.plain, PostS.rebase Pi g'⟩
    | some (.ok true, μ1), Pi =>
      intro y θ' H' nv g' R' hy
      have hy : y = true := hy
      subst hy
      have R1 := R'.plain
      refine ⟨fun σ2 H2 => ∃ θ2 sd2 μ2, Gr θ θ2 H H2 ∧ RS X.K X.mg H0 av θ2 sd2 μ2 σ2 H2 ∧ PostS X.K X.mg H0 W av θ2 H2 E (whF t fs gs m sd2 μ2), fun σ2 H2 z => ⟨m, Nat.lt_succ_self m, z⟩, av, θ', sdi, μ1, R1, ?_⟩
      simp only at Pi
      match hb2 : fs sdi μ1, Pi with
      | none, Pi => exact Pi
      | some (.nx, sd4, μ4), Pi => exact fun σ5 θ5 H5 g5 R5 => ⟨θ5, sd4, μ4, gi.trans (g'.trans g5), R5, PostS.rebase Pi (g'.trans g5)⟩
      | some (.ct, sd4, μ4), Pi => exact fun σ5 θ5 H5 g5 R5 => ⟨θ5, sd4, μ4, gi.trans (g'.trans g5), R5, PostS.rebase Pi (g'.trans g5)⟩
      | some (.brk, sd4, μ4), Pi => exact PostS.rebase Pi g'
      | some (.ret d, sd4, μ4), Pi => exact Pi
      | some (.exc x, sd4, μ4), Pi => exact PostS.rebase Pi g'
end
end DL
set_option Elab.async false
set_option linter.all false
set_option maxRecDepth 100000
/-! DL, part t: texts, pop. -/
namespace DL
open PySem PySem.Spec PyProof.Rows L2
section
variable {X : Cx} {H0 : Hp} {W : WX} {av θ : List Addr} {sd : Sl} {μ : Mem} {σ : L2.St} {H : Hp}
/-! ### one sign in a text -/
def sgn (a : Str) : Option Nat := match a.cps.toList with
  | [c] => some c
  | _ => none
theorem sgn_ok {a : Str} {c : Nat} (h : sgn a = some c) : a = ⟨#[c]⟩ := by
  unfold sgn at h
  split at h
  · rename_i c' e
    cases h
    obtain ⟨cs⟩ := a
    have e : cs.toList = [c] := e
    obtain ⟨l⟩ := cs
    have e : l = [c] := e
    subst e
    rfl
  · cases h
def gInS (neg : Bool) : Mem → D → D → Option D := fun _ x y => match x, y with
  | .str a, .str z => (sgn a).map fun c => .bl (if neg then !decide (c ∈ z.cps.toList) else decide (c ∈ z.cps.toList))
  | _, _ => none
theorem inS_ask {neg : Bool} {dx dy d : D} {x y : V} {Q : VK} (R : RS X.K X.mg H0 av θ sd μ σ H) (rx : rep X.K X.mg H0 av θ H dx x) (ry : rep X.K X.mg H0 av θ H dy y) (hg : gInS neg μ dx dy = some d) (q : Asks X H0 av θ sd μ σ H d Q) :
    ∃ (c : Nat) (z : Str), x = .str ⟨#[c]⟩ ∧ y = .str z ∧ Q (.bl (if neg then !decide (c ∈ z.cps.toList) else decide (c ∈ z.cps.toList))) H := by
  unfold gInS at hg
  split at hg
  · rename_i a z
    cases hs : sgn a with
    | none => rw [hs] at hg; cases hg
    | some c =>
      rw [hs] at hg
      cases hg
      have rx : x = .str a := rx
      have ry : y = .str z := ry
      subst rx ry
      exact ⟨c, z, by rw [sgn_ok hs], rfl, q.same R rfl (fun _ e => by cases e)⟩
  · cases hg
theorem od_inS : OpD X (compareOp .In) (gInS false) := fun H0 => ⟨_, op_in_sign, fun _ _ _ _ _ _ _ _ _ _ _ _ R rx ry hg q => inS_ask R rx ry hg q⟩
theorem od_notInS : OpD X (compareOp .NotIn) (gInS true) := fun H0 => ⟨_, op_notIn_sign, fun _ _ _ _ _ _ _ _ _ _ _ _ R rx ry hg q => inS_ask R rx ry hg q⟩
/-! ### str(..), int(..) -/
noncomputable def g1Str : Mem → D → Option D := fun _ x => match x with
  | .int i => when_ (i.natAbs.log2 < 1920) (some (.str (toString i)))
  | .str a => some (.str a)
  | _ => none
noncomputable def gStr := c1 g1Str
theorem cd_str : CallD X (.type "str") gStr := cd1 (CallR.or call_str_int SkE.call_str_str) fun H0 av θ sd μ σ H dx x d Q R rx hg q => by
  cases dx with
  | int i =>
    obtain ⟨h, hg⟩ := when_some (show when_ _ _ = some d from hg)
    cases hg
    have rx : x = .int i := rx
    subst rx
    exact .inl ⟨i, rfl, h, q.same R rfl (fun _ e => by cases e)⟩
  | str a =>
    cases hg
    have rx : x = .str a := rx
    subst rx
    exact .inr ⟨a, rfl, q.same R rfl (fun _ e => by cases e)⟩
  | _ => cases hg
noncomputable def g1IntS : Mem → D → Option D := fun _ x => match x with
  | .str a => (PySem.intText? a).bind fun n => when_ (a.length ≤ 640) (some (.int n))
  | _ => none
noncomputable def gIntS := c1 g1IntS
theorem cd_intS : CallD X (.type "int") gIntS := cd1 call_int_str fun H0 av θ sd μ σ H dx x d Q R rx hg q => by
  cases dx with
  | str a =>
    have hg : ((PySem.intText? a).bind fun n => when_ (a.length ≤ 640) (some (D.int n))) = some d := hg
    cases hn : PySem.intText? a with
    | none => rw [hn] at hg; cases hg
    | some n =>
      rw [hn] at hg
      obtain ⟨h, hg⟩ := when_some (show when_ _ _ = some d from hg)
      cases hg
      have rx : x = .str a := rx
      subst rx
      exact ⟨a, n, rfl, hn, h, q.same R rfl (fun _ e => by cases e)⟩
  | _ => cases hg
noncomputable def gIntA : Mem → List D → Option D := fun μ x => (gInt μ x).or (gIntS μ x)
theorem cd_intA : CallD X (.type "int") gIntA := cd_int.or cd_intS
/-! ### a text's methods -/
def eMs (g : Mem → D → List D → Option D) (f : EE) (a : EA) : EE := fun sd μ => bE (f sd μ) fun x μ1 => match x with
  | .str z => bE (a sd μ1) fun ds μ2 => (g μ2 (.str z) ds).map fun d => (.ok d, μ2)
  | _ => none
theorem pd_ms {o e : Expr} {es : List Expr} {name : Str} {id : String} {apos cpos : Pos} {g : Mem → D → List D → Option D} {f : EE} {ga : EA} (slot : Slot "str" name id) (hty : typeOf (.builtin id) = pure (.type "method_descriptor")) (hm : MtD X id g)
    (ho : PE X o (tE X.K X.mg H0 W f)) (ha : PA X (e :: es) (tA X.K X.mg H0 W ga))
    (hbase : attributeBase o name X.env (eval o X.env) = eval o X.env := by rfl)
    (hfew : ((backTo cpos (starEach (e :: es) X.env)).all (fun x => !x.1) && (backToKw cpos (keywordEach [] X.env)).all (fun x => x.1.isSome)
      && decide ((e :: es).length + ([] : List Keyword).length + (if ([] : List Keyword).isEmpty then 0 else 1) < 30)) = true := by rfl)
    (hline : (apos.endLine == cpos.line) = true := by rfl) (hs : starEach (e :: es) X.env = (false, eval e X.env) :: starEach es X.env := by rfl) (hplain : (backTo cpos (starEach es X.env)).any (·.1) = false := by rfl) :
    PE X (.Call (.Attribute o name apos) (e :: es) [] cpos) (tE X.K X.mg H0 W (eMs g f ga)) := by
  obtain ⟨r, hr, k⟩ := hm H0
  refine wkE (pe_bm PySem.F.plainAttrs_str slot hty hr ho ha hbase hfew hline hs hplain) fun σ H Q ⟨av, θ, sd, μ, R, P⟩ => ⟨av, θ, sd, μ, R, P.bind antiD fun x μ1 v θ1 H1 nv g1 R1 r1 P1 => ?_⟩
  cases x with
  | str z =>
    have r1 : v = .str z := r1.1
    subst r1
    refine ⟨rfl, av, θ1, sd, μ1, R1.plain, P1.bind antiD fun ds μ2 vs θ2 H2 nw g2 R2 r2 P2 => ?_⟩
    obtain ⟨d, hd, q⟩ := P2.ask
    exact k av θ2 sd μ2 σ H2 (.str z) (.str z) ds vs d Q R2.plain rfl r2 hd q
  | _ => exact P1.elim
def strD : D → Option Str
  | .str z => some z
  | _ => none
theorem str_rep : ∀ d v i, rep X.K X.mg H0 av θ H d v → strD d = some i → v = V.str i := fun d v i r h => by
  cases d <;> first | (cases h; exact r) | cases h
noncomputable def gJoin : Mem → D → List D → Option D := fun μ x ds => match x, ds with
  | .str a, [d] => (sqAny μ d).bind fun es => (allD strD es).bind fun ys => when_ ((ys.map (·.length)).sum + ys.length * a.length ≤ 16777216) (some (.str (Txt.join a ys)))
  | _, _ => none
theorem mt_joinD : MtD X "str.join" gJoin := fun H0 => ⟨_, mt_join, fun av θ sd μ σ H dx x ds xs d Q R rx rl hg q => by
  unfold gJoin at hg
  split at hg
  · rename_i a dd
    obtain ⟨v, rr, e1, ry, e2⟩ := rl
    have e2 : rr = [] := e2
    subst e2 e1
    have rx : x = .str a := rx
    subst rx
    cases h1 : sqAny μ dd with
    | none => rw [h1] at hg; cases hg
    | some es =>
      rw [h1] at hg
      simp only [Option.bind_some] at hg
      cases h2 : allD strD es with
      | none => rw [h2] at hg; cases hg
      | some ys =>
        rw [h2] at hg
        obtain ⟨h3, hg⟩ := when_some (show when_ _ _ = some d from hg)
        cases hg
        obtain ⟨p, zs, e, t, r⟩ := sqAny_at R ry h1
        have ez := all_rep str_rep r h2
        subst ez
        exact ⟨a, p, ys, rfl, by rw [e], t, h3, q.same R rfl (fun _ e => by cases e)⟩
  · cases hg⟩
/-! ### pop -/
def muPop : Mem → D → List D → Option (D × Mem) := fun μ x ds => match x, ds with
  | .ref n, [] => match μ[n]? with
    | some (.lst es) => (es[es.length - 1]?).bind fun d => if notNew d = true then some (d, μ.set n (.lst es.dropLast)) else none
    | _ => none
  | _, _ => none
theorem repL.dropLast {K : PySem.W.Frag} {mg : Mg} {ds : List D} {vs : List V} (h : repL K mg H0 av θ H ds vs) : repL K mg H0 av θ H ds.dropLast vs.dropLast := by
  rw [List.dropLast_eq_take, List.dropLast_eq_take, repL.length h]
  exact repL.take' _ h
theorem mu_pop : MuD X "list.pop" muPop := fun H0 => by
  refine ⟨_, mt_pop, fun av θ sd μ σ H dx x ds xs d μ' Q R rx rl hg q => ?_⟩
  unfold muPop at hg
  split at hg
  · rename_i n
    obtain ⟨a, rfl, hn⟩ := rx
    have rl : xs = [] := rl
    subst rl
    split at hg
    · rename_i es hm
      cases hl : es[es.length - 1]? with
      | none => rw [hl] at hg; cases hg
      | some y =>
        rw [hl] at hg
        have hg : (if notNew y = true then some (y, μ.set n (.lst es.dropLast)) else none) = some (d, μ') := hg
        split at hg
        · rename_i hy
          cases hg
          obtain ⟨ys, t, rs⟩ := R.mem n _ a hm hn
          obtain ⟨v, hv, rv⟩ := repL.get rs hl
          have ha : a ∈ θ := List.mem_of_getElem? hn
          refine ⟨a, ys, v, rfl, rfl, t, by rw [repL.length rs]; exact hv, ?_⟩
          have g0 : Gr θ θ H (upd H a (.lst ys.dropLast)) := ⟨List.prefix_refl _, fun b h m => absurd h m, fun b u m e => by rw [upd_ne (fun z => m (by rw [z]; exact ha))]; exact e⟩
          obtain ⟨g, R'⟩ := R.setO hn (mo := .lst es.dropLast) (o := .lst ys.dropLast) ⟨_, upd_same, repL.gr g0 _ _ rs.dropLast⟩
          exact q v _ [] g R' ⟨repG g0 rv, fun ds e => by subst e; cases hy⟩
        · cases hg
    · cases hg
  · cases hg
end
end DL
set_option Elab.async false
set_option linter.all false
set_option maxRecDepth 100000
/-! DL, part u: the head's facts with own errors. -/
namespace DL
open PySem PySem.Spec PyProof.Rows L2 He
/-- an own error: its name, its __init__, its fields -/
structure ErrD where
  x : Str
  qual : Str
  st : Stmt
  fs : List Str
abbrev FnZ : Type := Option (Str × Str × Arguments × FuncBody × Scope × Addr × List Str × Value × Addr)
def fnZ (K : PySem.W.Frag) (x : Str) : FnZ := match K.lookup (ma K (ga K x) "__init__") with
  | some ⟨_, _, .func fd, _⟩ => some (fd.name, fd.qualname, fd.params, fd.body, fd.scope, fd.globals, fd.closure.map (·.1), fd.defaults, fd.builtins)
  | _ => none
def ErrD.val (d : ErrD) : FnZ := some ("__init__", d.qual, defArgs d.st, .stmts (defBody d.st), defScope d.st, mainGlobals, ["__class__"], .none, builtinsNs)
def oexB (K : PySem.W.Frag) (C : Addr) : Bool := (match K.lookup C with
  | some ⟨.type "type", _, .cls cd, sl⟩ => (match cd.mro, sl.toList with
    | .ref C' :: bm, [_, _, _, _, some (.builtin n), _] => C' == C && n == "ValueError.__new__" && !cd.hasDel && cd.hasDict && PySem.HandSPX.refsVE bm
    | _, _ => false)
  | _ => false) && (decide (PySem.W.findIn K (.ref C) "__setattr__" = some (some (.builtin "object.__setattr__"))) && (decide (PySem.W.subIn K (.ref C) (.type "BaseException") = some true) && (decide (PySem.W.typeIn K (.ref C) = some (.type "type")) && PySem.W.keepIn K (.ref C))))
theorem oexB_ok {K : PySem.W.Frag} {C : Addr} (h : oexB K C = true) : OexC K C := by
  obtain ⟨h1, h⟩ := ba h
  obtain ⟨h2, h⟩ := ba h
  obtain ⟨h3, h⟩ := ba h
  obtain ⟨h4, h5⟩ := ba h
  refine ⟨?_, of_decide_eq_true h2, of_decide_eq_true h3, of_decide_eq_true h4, h5⟩
  split at h1
  · rename_i od cd sl lk
    split at h1
    · rename_i C' bm s0 s1 s2 s3 n s5 em es
      simp only [Bool.and_eq_true, beq_iff_eq, Bool.not_eq_true'] at h1
      obtain ⟨⟨⟨⟨rfl, rfl⟩, hd⟩, hdict⟩, hr⟩ := h1
      obtain ⟨nm, bs, mro, ns, q, hasDict, sn, sub, ab, col, del⟩ := cd
      dsimp only at em hd hdict
      subst em hd hdict
      obtain ⟨l⟩ := sl
      have es : l = [s0, s1, s2, s3, some (.builtin "ValueError.__new__"), s5] := es
      subst es
      exact ⟨_, _, _, _, _, _, _, _, _, _, _, _, _, _, _, lk, hr⟩
    · cases h1
  · cases h1
/-- what the head's look tells of an own error -/
def errB (file : Str) (K : PySem.W.Frag) (d : ErrD) : Bool :=
  eqO (PySem.W.nsIn K mainGlobals d.x) (some (some (.ref (ga K d.x)))) && (oexB K (ga K d.x) && (eqO (PySem.W.findIn K (.ref (ga K d.x)) "__init__") (some (some (.ref (ma K (ga K d.x) "__init__")))) &&
    (decide (PySem.W.typeIn K (.ref (ma K (ga K d.x) "__init__")) = some (.type "function")) && ((match K.lookup (ma K (ga K d.x) "__init__") with
      | some ⟨_, _, .func fd, _⟩ => (match fd.closure with
        | [(_, cc)] => (match K.lookup cc with
          | some ⟨_, _, .cell (some (.ref D)), _⟩ => D == ga K d.x
          | _ => false)
        | _ => false) && (match fd.code with
          | .ref cda => PySem.W.codeIn K (.ref cda) fd.qualname && (match K.lookup cda with
            | some ⟨_, _, .fields vs, _⟩ => (match (vs[2]? : Option Value) with
              | some (.str z _) => file == z
              | _ => false)
            | _ => false)
          | _ => false)
      | _ => false) && ((PySem.W.clsIn K (ga K d.x)).isSome && (decide (PySem.W.mroIn K (ga K d.x) (.ref (ga K d.x)) = some true) && (eqO (PySem.W.ks_superIn K (ga K d.x) (ga K d.x) "__init__") (some (some (.builtin "ValueError.__init__"))) &&
        (decide (PySem.W.subIn K (.ref (ga K d.x)) (.type "ValueError") = some true) && d.fs.all fun f => eqO (PySem.W.findIn K (.ref (ga K d.x)) f) (some none)))))))))
structure ErrS (P : Program) (K : PySem.W.Frag) (mg : Mg) (d : ErrD) : Prop where
  at_ : mg d.x = some (.ref (ga K d.x))
  T : OexC K (ga K d.x)
  ini : PySem.W.findIn K (.ref (ga K d.x)) "__init__" = some (some (.ref (ma K (ga K d.x) "__init__")))
  ty : PySem.W.typeIn K (.ref (ma K (ga K d.x) "__init__")) = some (.type "function")
  no : ∀ f ∈ d.fs, PySem.W.findIn K (.ref (ga K d.x)) f = some none
  sup : ∃ (F : NdefX.NF) (fd : FuncData), F.name = "__init__" ∧ F.params = defArgs d.st ∧ F.body = defBody d.st ∧ F.scope = defScope d.st ∧ (∃ kV doc pm an ct cc, fd = PySem.W.fnX "__init__" d.qual (defArgs d.st) (defBody d.st) (defScope d.st) [("__class__", cc)] .none kV doc pm an (.ref F.c) ct) ∧
    DLX.SupI P K mg (ga K d.x) (ma K (ga K d.x) "__init__") F fd
theorem errB_ok {P : Program} {K : PySem.W.Frag} {mg : Mg} {h : Heap} (X : K.In h) (G : h.Ns mainGlobals mg) {d : ErrD} (e : errB P.main.file K d = true) (v : fnZ K d.x = d.val) (hs : mg "super" = none) (ht : (P.main.scope.names.lookup ("super" : Str)).isSome = false)
    (hn : (defScope d.st).names.lookup ("super" : Str) = some .globalImplicit) (h3 : PySem.W.nsIn K cStatics "thirdparty.any" = some none) : ErrS P K mg d := by
  unfold errB at e
  obtain ⟨e1, e⟩ := ba e
  obtain ⟨e2, e⟩ := ba e
  obtain ⟨e3, e⟩ := ba e
  obtain ⟨e4, e⟩ := ba e
  obtain ⟨e5, e⟩ := ba e
  obtain ⟨e6, e⟩ := ba e
  obtain ⟨e7, e⟩ := ba e
  obtain ⟨e8, e⟩ := ba e
  obtain ⟨e9, e10⟩ := ba e
  refine ⟨PySem.W.mg_of X G (eqO_ok e1), oexB_ok e2, eqO_ok e3, of_decide_eq_true e4, fun f hf => eqO_ok (List.all_eq_true.mp e10 f hf), ?_⟩
  unfold fnZ at v
  cases lk : K.lookup (ma K (ga K d.x) "__init__") with
  | none => rw [lk] at v; cases v
  | some o =>
    obtain ⟨oc, od, dt, osl⟩ := o
    rw [lk] at v e5
    cases dt with
    | func fd =>
      obtain ⟨n1, n2, n3, n4, n5, n6, n7, n8, n9, n10, n11, n12, n13, n14, n15⟩ := fd
      have v : (some (n1, n2, n3, n4, n5, n6, n7.map (·.1), n8, n15) : FnZ) = d.val := v
      unfold ErrD.val at v
      simp only [Option.some.injEq, Prod.mk.injEq] at v
      obtain ⟨rfl, rfl, rfl, rfl, rfl, rfl, v7, rfl, rfl⟩ := v
      obtain ⟨e51, e52⟩ := ba e5
      dsimp only at e51 e52
      split at e51
      · rename_i nm cc
        simp only [List.map_cons, List.map_nil, List.cons.injEq, and_true] at v7
        subst v7
        split at e51
        · rename_i ccls cdd D csl lc
          have hD : D = ga K d.x := beq_iff_eq.mp e51
          subst hD
          split at e52
          · rename_i cda
            obtain ⟨e53, e54⟩ := ba e52
            split at e54
            · rename_i fcl fdd vs fsl lf
              split at e54
              · rename_i z tz hz
                obtain ⟨cd, hcd⟩ := Option.isSome_iff_exists.mp e6
                exact ⟨⟨"__init__", d.qual, defArgs d.st, defBody d.st, defScope d.st, [("__class__", cc)], cda⟩, _, rfl, rfl, rfl, rfl, ⟨n9, n10, n11, n12, n14, cc, rfl⟩,
                  ⟨⟨oc, od, osl, .none, n9, n10, n11, n12, n14, rfl, lk⟩, ⟨cc, rfl, _, _, _, lc⟩, e53, ⟨_, _, _, _, z, tz, lf, hz, e54⟩, ⟨cd, hcd⟩, of_decide_eq_true e7, eqO_ok e8, of_decide_eq_true e9, h3, hs, ht, hn⟩⟩
              · cases e54
            · cases e54
          · cases e52
        · cases e51
      · cases e51
    | _ => cases v
end DL
set_option Elab.async false
set_option linter.all false
set_option maxRecDepth 100000
/-! DL, part v: own errors ready for use; the hook. -/
namespace DL
open PySem PySem.Spec PyProof.Rows L2 He
section
variable {P : Program} {w : World} {K : PySem.W.Frag} {mg : Mg} {base : Heap} {d : ErrD} {ar : Arg} {s x y g h z : Str} {j : Nat} {p0 p1 p2 p3 p4 p5 p6 p7 p8 p9 q5 q6 q7 q8 q9 : Pos}
theorem errOk1 (E : ErrS P K mg d) (hfs : d.fs = [g]) (S : NdefX.NScope [s, x, "__class__"] [s, x] ["__class__"] (defScope d.st)) (hp : ((defArgs d.st).posonlyargs ++ (defArgs d.st).args).head? = some ar) (hps : some s = some ar.arg)
    (hbody : defBody d.st = [.Expr (.Call (.Attribute (.Call (.Name "super" p0) [] [] p1) "__init__" p2) [.Constant (.str z) j p5] [] p3) p4, .Assign [.Attribute (.Name s p6) g p7] (.Name x p8) p9])
    (hbind : ∀ (kV doc pm : Value) (an : Option Addr) (ct : Value) (cda cc : Addr) (us : List Value), us.length = 2 → bindArgs (PySem.W.fnX "__init__" d.qual (defArgs d.st) (defBody d.st) (defScope d.st) [("__class__", cc)] .none kV doc pm an (.ref cda) ct) ⟨us, []⟩ = pure ([s, x].zip us))
    (hs : (s == ("__debug__" : Str)) = false) (hs2 : (s == ("__classdict__" : Str)) = false) (hx : (x == ("__debug__" : Str)) = false) (hx2 : (x == ("__classdict__" : Str)) = false)
    (hev : ∀ env : Env, ∃ pl : Sem Bool, eval (.Call (.Attribute (.Call (.Name "super" p0) [] [] p1) "__init__" p2) [.Constant (.str z) j p5] [] p3) env = (do
      let ov ← attributeBase (.Call (.Name "super" p0) [] [] p1) "__init__" env (eval (.Call (.Name "super" p0) [] [] p1) env)
      standAt p2.atName
      let (f, first) ← holding [ov] (getMethod ov "__init__" pl)
      callWith p3 f first (backTo p3 (starEach [.Constant (.str z) j p5] env)) []) := by intro _; exact ⟨_, rfl⟩) :
    ErrOk P w K mg base d.x 1 d.fs := by
  obtain ⟨F, fd, hnm, hpa, hbo, hsc, ⟨kV, doc, pm, an, ct, cc, hfd⟩, Z⟩ := E.sup
  have no := E.no g (by rw [hfs]; simp)
  rw [hfs]
  refine ⟨_, _, fd, [s, x], E.at_, E.T, E.ini, E.ty, errF1 Z E.T (by rw [hsc]; exact S) (by rw [hpa]; exact hp) hps (by rw [hbo]; exact hbody) no hs hs2 hx hx2 hev, .all fun us hl => ?_⟩
  rw [hfd]
  exact hbind kV doc pm an ct F.c cc us hl
theorem errOk2 (E : ErrS P K mg d) (hfs : d.fs = [g, h]) (S : NdefX.NScope [s, x, y, "__class__"] [s, x, y] ["__class__"] (defScope d.st)) (hp : ((defArgs d.st).posonlyargs ++ (defArgs d.st).args).head? = some ar) (hps : some s = some ar.arg)
    (hbody : defBody d.st = [.Expr (.Call (.Attribute (.Call (.Name "super" p0) [] [] p1) "__init__" p2) [.Constant (.str z) j p5] [] p3) p4, .Assign [.Attribute (.Name s p6) g p7] (.Name x p8) p9, .Assign [.Attribute (.Name s q6) h q7] (.Name y q8) q9])
    (hbind : ∀ (kV doc pm : Value) (an : Option Addr) (ct : Value) (cda cc : Addr) (us : List Value), us.length = 3 → bindArgs (PySem.W.fnX "__init__" d.qual (defArgs d.st) (defBody d.st) (defScope d.st) [("__class__", cc)] .none kV doc pm an (.ref cda) ct) ⟨us, []⟩ = pure ([s, x, y].zip us))
    (hs : (s == ("__debug__" : Str)) = false) (hs2 : (s == ("__classdict__" : Str)) = false) (hx : (x == ("__debug__" : Str)) = false) (hx2 : (x == ("__classdict__" : Str)) = false) (hy : (y == ("__debug__" : Str)) = false) (hy2 : (y == ("__classdict__" : Str)) = false)
    (hev : ∀ env : Env, ∃ pl : Sem Bool, eval (.Call (.Attribute (.Call (.Name "super" p0) [] [] p1) "__init__" p2) [.Constant (.str z) j p5] [] p3) env = (do
      let ov ← attributeBase (.Call (.Name "super" p0) [] [] p1) "__init__" env (eval (.Call (.Name "super" p0) [] [] p1) env)
      standAt p2.atName
      let (f, first) ← holding [ov] (getMethod ov "__init__" pl)
      callWith p3 f first (backTo p3 (starEach [.Constant (.str z) j p5] env)) []) := by intro _; exact ⟨_, rfl⟩) :
    ErrOk P w K mg base d.x 1 d.fs := by
  obtain ⟨F, fd, hnm, hpa, hbo, hsc, ⟨kV, doc, pm, an, ct, cc, hfd⟩, Z⟩ := E.sup
  have no := E.no g (by rw [hfs]; simp)
  have no2 := E.no h (by rw [hfs]; simp)
  rw [hfs]
  refine ⟨_, _, fd, [s, x, y], E.at_, E.T, E.ini, E.ty, errF2 Z E.T (by rw [hsc]; exact S) (by rw [hpa]; exact hp) hps (by rw [hbo]; exact hbody) no no2 hs hs2 hx hx2 hy hy2 hev, .all fun us hl => ?_⟩
  rw [hfd]
  exact hbind kV doc pm an ct F.c cc us hl
end
/-! ### the Hook: facts, defs, errors, one more look -/
abbrev AlE : Type := AlD × List FnZ × Bool
def obsE2 (n : Nat) (fa : List Fa) (fn : List DefD) (er : List ErrD) (ex : PySem.W.Frag → Bool) (g : Addr → Option Obj) : AlE :=
  let K := frG g (cStatics :: asD g n)
  (obsD fa fn K, er.map (fun d => fnZ K d.x), ex K && eqO (PySem.W.nsIn K cStatics "thirdparty.any") (some none))
def valE2 (fn : List DefD) (er : List ErrD) : AlE := (valD fn, er.map ErrD.val, true)
structure SaysE2 (fa : List Fa) (fn : List DefD) (er : List ErrD) (ex : PySem.W.Frag → Bool) (K : PySem.W.Frag) : Prop where
  d : SaysD fa fn K
  er : er.map (fun d => fnZ K d.x) = er.map ErrD.val
  ex : ex K = true
  th : PySem.W.nsIn K cStatics "thirdparty.any" = some none
def hookE2 (n : Nat) (fa : List Fa) (fn : List DefD) (er : List ErrD) (ex : PySem.W.Frag → Bool) : PySem.W.Hook where
  α := AlE
  obs := fun s => obsE2 n fa fn er ex s.heap.get?
  val := fun _ => valE2 fn er
  says := fun _ h => ∃ K : PySem.W.Frag, K.In h ∧ SaysE2 fa fn er ex K
  of := fun _ h e => ⟨_, frG_in, by
    have e1 := congrArg (fun z : AlE => z.1) e
    have e2 := congrArg (fun z : AlE => z.2.1) e
    have e3 := congrArg (fun z : AlE => z.2.2) e
    obtain ⟨e4, e5⟩ := ba e3
    exact ⟨e1, e2, e4, eqO_ok e5⟩⟩
  keeps := fun _ _ _ ⟨K, hK, c⟩ k => ⟨K, PySem.W.Frag.In.keeps hK k, c⟩
theorem obsE2_eq {n : Nat} {fa : List Fa} {fn : List DefD} {er : List ErrD} {ex : PySem.W.Frag → Bool} {g : Addr → Option Obj} {s : Shared} (h : ∀ a, g a = s.heap.get? a) : obsE2 n fa fn er ex g = (hookE2 n fa fn er ex).obs s := by
  have e : g = s.heap.get? := funext h
  rw [e] <;> rfl
theorem SaysE2.err {fa : List Fa} {fn : List DefD} {er : List ErrD} {ex : PySem.W.Frag → Bool} {K : PySem.W.Frag} (c : SaysE2 fa fn er ex K) (i : Nat) {d : ErrD} (h : er[i]? = some d := by rfl) : fnZ K d.x = d.val := by
  have e : (er.map (fun d => fnZ K d.x))[i]? = (er.map ErrD.val)[i]? := by rw [c.er]
  rw [List.getElem?_map, List.getElem?_map, h] at e
  exact Option.some.inj e
end DL
set_option Elab.async false
set_option linter.all false
set_option maxRecDepth 100000
/-! DL, part w: constants of the module, in, times of texts. -/
namespace DL
open PySem PySem.Spec PyProof.Rows L2
section
variable {X : Cx} {H0 : Hp} {W : WX}
theorem pd_gs {x z : Str} {pos : Pos} (h : ∃ t, X.mg x = some (.str z t)) (hg : Gl X x := by rfl) (hd : (x == ("__debug__" : Str)) = false := by decide) : PE X (.Name x pos) (tE X.K X.mg H0 W (eC (.str z))) := by
  obtain ⟨t, ht⟩ := h
  exact pd_c (pe_glob (v := .str z) hg ht ⟨t, rfl⟩ hd) (fun _ _ _ => rfl) (fun _ e => by cases e)
theorem pd_gi {x : Str} {i : Int} {pos : Pos} (h : ∃ t, X.mg x = some (.int i t)) (hg : Gl X x := by rfl) (hd : (x == ("__debug__" : Str)) = false := by decide) : PE X (.Name x pos) (tE X.K X.mg H0 W (eC (.int i))) := by
  obtain ⟨t, ht⟩ := h
  exact pd_c (pe_glob (v := .int i) hg ht ⟨t, rfl⟩ hd) (fun _ _ _ => rfl) (fun _ e => by cases e)
noncomputable def gInA (neg : Bool) : Mem → D → D → Option D := fun μ x y => (gInS neg μ x y).or (gInD neg μ x y)
theorem od_inA (hu : X.A.units + 65 < cLine) : OpD X (compareOp .In) (gInA false) := od_inS.or (od_in hu)
theorem od_notInA (hu : X.A.units + 65 < cLine) : OpD X (compareOp .NotIn) (gInA true) := od_notInS.or (od_notIn hu)
def repS (a : Str) (n : Nat) : Str := ⟨(List.replicate n a.cps).foldl (· ++ ·) #[]⟩
noncomputable def gMulS : Mem → D → D → Option D := fun _ x y => match x, y with
  | .str a, .int n => when_ (2 ≤ n ∧ n ≤ 1000 ∧ 1 ≤ a.length ∧ a.length ≤ 1000 ∧ (repS a n.toNat).length ≤ sizeLine) (some (.str (repS a n.toNat)))
  | _, _ => none
theorem op_mulS : OpR X (binaryOp .Mult) (fun x y H Q => ∃ (a : Str) (n : Int), x = .str a ∧ y = .int n ∧ (2 ≤ n ∧ n ≤ 1000 ∧ 1 ≤ a.length ∧ a.length ≤ 1000 ∧ (repS a n.toNat).length ≤ sizeLine) ∧ Q (.str (repS a n.toNat)) H) := by
  intro pins s σ H x y v u Q I rx ry ⟨a, n, e1, e2, ⟨h1, h2, h3, h4, h5⟩, q⟩
  subst e1 e2
  obtain ⟨t, rfl⟩ := rx
  obtain ⟨t2, rfl⟩ := ry
  have n1 : ¬ n < 1 := by omega
  have n2 : (n == 1 || a.length == 0) = false := by
    rw [Bool.or_eq_false_iff, beq_eq_false_iff_ne, beq_eq_false_iff_ne]
    exact ⟨by omega, by omega⟩
  have hd : (2 ^ 63 - 1) / n ≥ 1000 := Int.le_ediv_of_mul_le (by omega) (by omega)
  have hm : a.length * n.toNat ≤ 1000 * 1000 := Nat.mul_le_mul h4 (by omega)
  refine P.mul_str (by rw [decide_eq_false (by omega), decide_eq_false (by omega)]; rfl) (fun _ _ => by omega) (fun _ _ => ?_) ?_
  · unfold Builtin.Str.tooLong
    exact decide_eq_false (Nat.not_lt.mpr (Nat.le_trans hm (by decide)))
  · rw [if_neg n1, if_neg (by rw [n2]; exact Bool.false_ne_true)]
    exact ⟨h5, .str (repS a n.toNat), H, I.tok _, ⟨_, rfl⟩, q⟩
theorem od_mulS : OpD X (binaryOp .Mult) gMulS := fun H0 => ⟨_, op_mulS, fun av θ sd μ σ H dx dy x y d Q R rx ry hg q => by
  cases dx with
  | str a =>
    cases dy with
    | int n =>
      obtain ⟨c, hg⟩ := when_some (show when_ _ _ = some d from hg)
      cases hg
      have rx : x = .str a := rx
      have ry : y = .int n := ry
      subst rx ry
      exact ⟨a, n, rfl, rfl, c, q.same R rfl (fun _ e => by cases e)⟩
    | _ => cases hg
  | _ => cases hg⟩
noncomputable def gMulA : Mem → D → D → Option D := fun μ x y => (gMul μ x y).or (gMulS μ x y)
theorem od_mulA : OpD X (binaryOp .Mult) gMulA := od_mul.or od_mulS
end
end DL
set_option Elab.async false
set_option linter.all false
set_option maxRecDepth 100000
/-! DL, part 1: tables of classes, looked at in the head. -/
namespace DL
open PySem PySem.Spec PyProof.Rows L2 He
def gloB (K : PySem.W.Frag) (x : Str) : Bool := eqO (PySem.W.nsIn K mainGlobals x) (some (some (.ref (ga K x))))
abbrev T2B := List ((Str × Str) × Bool)
def exB (K : PySem.W.Frag) (L : T2B) : Bool := L.all fun t => gloB K t.1.1 && (gloB K t.1.2 && decide (PySem.W.exmOne K (.ref (ga K t.1.1)) (.ref (ga K t.1.2)) = some t.2))
def excB (K : PySem.W.Frag) (D : Addr) : Bool := decide (PySem.W.findIn K (.ref D) "__getattribute__" = some (some (.builtin "BaseException.__getattribute__"))) && (decide (PySem.W.findIn K (.ref D) "__getattr__" = some none) && (decide (PySem.W.subIn K (.ref D) (.type "BaseException") = some true) &&
  (PySem.W.hasDictIn K D && (decide (PySem.W.findIn K (.ref D) "__class__" = some (some (.builtin "object.__class__"))) && (decide (PySem.W.specialIn K (.builtin "object.__class__") "__get__" = some (some (.builtin "getset_descriptor.__get__"))) &&
    (decide (PySem.W.takesIn K (.builtin "object.__class__") = some true) && decide (PySem.W.mroIn K D (.type "object") = some true)))))))
theorem excB_ok {K : PySem.W.Frag} {D : Addr} (h : excB K D = true) : ExcC K D := by
  obtain ⟨h1, h⟩ := ba h
  obtain ⟨h2, h⟩ := ba h
  obtain ⟨h3, h⟩ := ba h
  obtain ⟨h4, h⟩ := ba h
  obtain ⟨h5, h⟩ := ba h
  obtain ⟨h6, h⟩ := ba h
  obtain ⟨h7, h8⟩ := ba h
  exact ⟨of_decide_eq_true h1, of_decide_eq_true h2, of_decide_eq_true h3, h4, of_decide_eq_true h5, of_decide_eq_true h6, of_decide_eq_true h7, of_decide_eq_true h8⟩
def kiB (K : PySem.W.Frag) (L : T2B) : Bool := L.all fun t => gloB K t.1.1 && (gloB K t.1.2 && (excB K (ga K t.1.1) && decide (PySem.W.kitOne K (.ref (ga K t.1.1)) (.ref (ga K t.1.2)) = some t.2)))
def ki2B (K : PySem.W.Frag) (L : List ((Str × String) × Bool)) : Bool := L.all fun t => gloB K t.1.1 && (excB K (ga K t.1.1) && decide (PySem.W.kitOne K (.ref (ga K t.1.1)) (.type t.1.2) = some t.2))
def xfBl (K : PySem.W.Frag) (L : List (Str × Str)) : Bool := L.all fun t => gloB K t.1 && (xfB K (ga K t.1) && eqO (PySem.W.findIn K (.ref (ga K t.1)) t.2) (some none))
def tabT (L : T2B) : Str → Str → Option Bool := fun x y => L.lookup (x, y)
def tabT2 (L : List ((Str × String) × Bool)) : Str → String → Option Bool := fun x y => L.lookup (x, y)
def tabX (L : List (Str × Str)) : Str → Str → Bool := fun x y => decide ((x, y) ∈ L)
theorem look_mem {α β : Type} [BEq α] [LawfulBEq α] {a : α} {b : β} : ∀ {L : List (α × β)}, L.lookup a = some b → (a, b) ∈ L
  | [], h => by cases h
  | (c, d) :: L, h => by
    simp only [List.lookup] at h
    split at h
    · rename_i q
      cases h
      rw [beq_iff_eq.mp q]
      exact List.mem_cons_self
    · exact List.mem_cons_of_mem _ (look_mem h)
section
variable {K : PySem.W.Frag} {h : Heap} {mg : Mg}
theorem gloB_ok (X : K.In h) (G : h.Ns mainGlobals mg) {x : Str} (e : gloB K x = true) : mg x = some (.ref (ga K x)) := PySem.W.mg_of X G (eqO_ok e)
theorem exT_of (X : K.In h) (G : h.Ns mainGlobals mg) {L : T2B} (e : exB K L = true) : ExT K mg (tabT L) := fun x y b q => by
  have m := List.all_eq_true.mp e _ (look_mem q)
  obtain ⟨m1, m⟩ := ba m
  obtain ⟨m2, m3⟩ := ba m
  have g1 := gloB_ok X G m1
  have g2 := gloB_ok X G m2
  refine ⟨⟨_, g1⟩, fun cx cy hx hy => ?_⟩
  rw [g1] at hx
  cases hx
  rcases hy with hy | ⟨hy, _⟩
  · rw [g2] at hy
    cases hy
    exact of_decide_eq_true m3
  · rw [g2] at hy
    cases hy
theorem xfT_of (X : K.In h) (G : h.Ns mainGlobals mg) {L : List (Str × Str)} (e : xfBl K L = true) : XfT K mg (tabX L) := fun x f q c hc => by
  have m := List.all_eq_true.mp e _ (of_decide_eq_true q)
  obtain ⟨m1, m⟩ := ba m
  obtain ⟨m2, m3⟩ := ba m
  have g1 := gloB_ok X G m1
  rw [g1] at hc
  cases hc
  exact ⟨xfB_ok m2, eqO_ok m3⟩
theorem kiT_of (X : K.In h) (G : h.Ns mainGlobals mg) {L : T2B} {L2 : List ((Str × String) × Bool)} (e : kiB K L = true) (e2 : ki2B K L2 = true) : KiT K mg (tabT L) (tabT2 L2) := by
  refine ⟨fun x y b q c hc => ?_, fun x y b q c hc => ?_⟩
  · have m := List.all_eq_true.mp e _ (look_mem q)
    obtain ⟨m1, m⟩ := ba m
    obtain ⟨m2, m⟩ := ba m
    obtain ⟨m3, m4⟩ := ba m
    have g1 := gloB_ok X G m1
    have g2 := gloB_ok X G m2
    rw [g1] at hc
    cases hc
    refine ⟨excB_ok m3, fun e he => ?_⟩
    rw [g2] at he
    cases he
    exact of_decide_eq_true m4
  · have m := List.all_eq_true.mp e2 _ (look_mem q)
    obtain ⟨m1, m⟩ := ba m
    obtain ⟨m3, m4⟩ := ba m
    have g1 := gloB_ok X G m1
    rw [g1] at hc
    cases hc
    exact ⟨excB_ok m3, of_decide_eq_true m4⟩
end
end DL
set_option Elab.async false
set_option linter.all false
set_option maxRecDepth 100000
set_option maxHeartbeats 4000000
namespace LK
open PySem PySem.Spec PyProof.Rows L2 DL
def top (i : Nat) : Stmt := PySem.Challenge.pw_liftedliars_k00_value_texts.main.body.getD i (.Pass ⟨0, 0, 0, 0⟩)
def inner (i j : Nat) : Stmt := match top i with
  | .ClassDef _ _ _ body _ _ _ _ _ _ _ => body.getD j (.Pass ⟨0, 0, 0, 0⟩)
  | _ => .Pass ⟨0, 0, 0, 0⟩
def fuel : Nat := 1000000
theorem bo_str : bootBuiltins "str" = some (.type "str") := by decide +kernel
theorem bo_tuple : bootBuiltins "tuple" = some (.type "tuple") := by decide +kernel
theorem bo_isinstance : bootBuiltins "isinstance" = some (.builtin "isinstance") := by decide +kernel
theorem bo_len : bootBuiltins "len" = some (.builtin "len") := by decide +kernel
theorem bo_min : bootBuiltins "min" = some (.builtin "min") := by decide +kernel
theorem bo_int : bootBuiltins "int" = some (.type "int") := by decide +kernel
theorem bo_range : bootBuiltins "range" = some (.type "range") := by decide +kernel
theorem bo_abs : bootBuiltins "abs" = some (.builtin "abs") := by decide +kernel
theorem bo_bool : bootBuiltins "bool" = some (.type "bool") := by decide +kernel
theorem bo_ValueError : bootBuiltins "ValueError" = some (.type "ValueError") := by decide +kernel
structure Bi (mg : Mg) : Prop where
  b_str : mg "str" = none
  b_tuple : mg "tuple" = none
  b_isinstance : mg "isinstance" = none
  b_len : mg "len" = none
  b_min : mg "min" = none
  b_int : mg "int" = none
  b_range : mg "range" = none
  b_abs : mg "abs" = none
  b_bool : mg "bool" = none
  b_ValueError : mg "ValueError" = none
def exL : T2B := [(("BadName", "BadName"), true), (("BadName", "BadText"), false), (("BadName", "BookError"), true), (("BadText", "BadName"), false), (("BadText", "BadText"), true), (("BadText", "BookError"), true)]
def kiL : T2B := [(("BadName", "BookError"), true), (("BadName", "BadName"), true), (("BadName", "BadText"), false), (("BadText", "BookError"), true), (("BadText", "BadName"), false), (("BadText", "BadText"), true)]
def ki2L : List ((Str × String) × Bool) := [(("BadName", "ValueError"), true), (("BadName", "Exception"), true), (("BadText", "ValueError"), true), (("BadText", "Exception"), true)]
def xfL : List (Str × Str) := [("BadName", "name"), ("BadText", "at")]
abbrev exT := tabT exL
abbrev kiT := tabT kiL
abbrev kiT2 := tabT2 ki2L
abbrev xfT := tabX xfL
structure Co (K : PySem.W.Frag) (mg : Mg) : Prop where
  ex : ExT K mg exT
  xf : XfT K mg xfT
  ki : KiT K mg kiT kiT2
  c_LONGEST_NUMBER : ∃ t, mg "LONGEST_NUMBER" = some (.int 200 t)
  c_DIGITS : ∃ t, mg "DIGITS" = some (.str "0123456789" t)
  c_LETTERS : ∃ t, mg "LETTERS" = some (.str "abcdefghijklmnopqrstuvwxyz" t)
  c_LONGEST_WORD : ∃ t, mg "LONGEST_WORD" = some (.int 20 t)
  c_DEEPEST : ∃ t, mg "DEEPEST" = some (.int 100 t)
  g_BookError : mg "BookError" = some (.ref (He.ga K "BookError"))
  g_BadName : mg "BadName" = some (.ref (He.ga K "BadName"))
  g_BadText : mg "BadText" = some (.ref (He.ga K "BadText"))
section
variable {K : PySem.W.Frag} {mg : Mg}
theorem Co.k_BookError (C : Co K mg) : ∃ a, mg "BookError" = some (.ref a) := ⟨_, C.g_BookError⟩
theorem Co.n_BookError {X : Cx} (C : Co X.K X.mg) (h : Gl X "BookError") : Names X "BookError" (.ref (He.ga X.K "BookError")) := ⟨h, by decide, .inl C.g_BookError⟩
theorem Co.k_BadName (C : Co K mg) : ∃ a, mg "BadName" = some (.ref a) := ⟨_, C.g_BadName⟩
theorem Co.n_BadName {X : Cx} (C : Co X.K X.mg) (h : Gl X "BadName") : Names X "BadName" (.ref (He.ga X.K "BadName")) := ⟨h, by decide, .inl C.g_BadName⟩
theorem Co.k_BadText (C : Co K mg) : ∃ a, mg "BadText" = some (.ref a) := ⟨_, C.g_BadText⟩
theorem Co.n_BadText {X : Cx} (C : Co X.K X.mg) (h : Gl X "BadText") : Names X "BadText" (.ref (He.ga X.K "BadText")) := ⟨h, by decide, .inl C.g_BadText⟩
end
/-! run_end(text, at, signs, most): slots 0=text 1=at 2=signs 3=most 4=last -/
abbrev s_run_end : Stmt := top 11
theorem sc_run_end : FnScope ["text", "at", "signs", "most", "last"] ["text", "at", "signs", "most"] (defScope s_run_end) := ⟨rfl, rfl, rfl, by decide +kernel, rfl, by decide +kernel, by decide +kernel⟩
noncomputable def run_end_t1 : ET :=
    qAnd (qB (eBin gLtI (eV 1) (eV 4))) (qB (eBin (gInA false) (eBin gIx (eV 0) (eV 1)) (eV 2)))
noncomputable def run_end_b1 : SS :=
    sAug 1 gAddI (eC (.int 1))
noncomputable def run_end_o1 : SS :=
    sSkip
noncomputable def run_end_l1 : SS :=
    whF run_end_t1 run_end_b1 run_end_o1 fuel
noncomputable def b_run_end : SS :=
    sSeq (sAsg (eOwn (eCB gMin2 (eCons (eCB gLen (eCons (eV 0) (eNil))) (eCons (eBin gAdd (eV 1) (eV 3)) (eNil))))) (gD 4))
    (sSeq (run_end_l1)
    (sRet (eV 1)))
noncomputable def m_run_end : Mir := runF 5 b_run_end
/-! read_plain(text, at): slots 0=text 1=at 2=end 3=first -/
abbrev s_read_plain : Stmt := top 12
theorem sc_read_plain : FnScope ["text", "at", "end", "first"] ["text", "at"] (defScope s_read_plain) := ⟨rfl, rfl, rfl, by decide +kernel, rfl, by decide +kernel, by decide +kernel⟩
noncomputable def b_read_plain : SS :=
    sSeq (sIf (qB (eBin (gInA false) (eBin gIx (eV 0) (eV 1)) (eC (.str "abcdefghijklmnopqrstuvwxyz")))) (sSeq (sAsg (eOwn (eCall (m_run_end) 4 (eCons (eV 0) (eCons (eV 1) (eCons (eC (.str "abcdefghijklmnopqrstuvwxyz")) (eCons (eC (.int 20)) (eNil))))))) (gD 2))
    (sRet (eTup (eCons (eSl gSl (eV 0) (oSome (eV 1)) (oSome (eV 2))) (eCons (eV 2) (eNil)))))) (sSkip))
    (sSeq (sAsg (eOwn (eIf (qB (eBin (gEqD false) (eBin gIx (eV 0) (eV 1)) (eC (.str "-")))) (eBin gAdd (eV 1) (eC (.int 1))) (eV 1))) (gD 3))
    (sSeq (sIf (qOr (qB (eBin (gEqD false) (eV 3) (eCB gLen (eCons (eV 0) (eNil))))) (qOr (qB (eBin (gInA true) (eBin gIx (eV 0) (eV 3)) (eC (.str "0123456789")))) (qAnd (qB (eBin (gEqD false) (eBin gIx (eV 0) (eV 3)) (eC (.str "0")))) (qB (eBin gGtI (eV 3) (eV 1)))))) (sRaise "BadText" ["at"] (eCons (eV 3) (eNil))) (sSkip))
    (sSeq (sIf (qB (eBin (gEqD false) (eBin gIx (eV 0) (eV 3)) (eC (.str "0")))) (sRet (eTup (eCons (eC (.int 0)) (eCons (eBin gAdd (eV 3) (eC (.int 1))) (eNil))))) (sSkip))
    (sSeq (sAsg (eOwn (eCall (m_run_end) 4 (eCons (eV 0) (eCons (eV 3) (eCons (eC (.str "0123456789")) (eCons (eC (.int 200)) (eNil))))))) (gD 2))
    (sRet (eTup (eCons (eCB gIntA (eCons (eSl gSl (eV 0) (oSome (eV 1)) (oSome (eV 2))) (eNil))) (eCons (eV 2) (eNil)))))))))
noncomputable def m_read_plain : Mir := runF 4 b_read_plain
/-! read_value(text): slots 0=text 1=stack 2=at 3=value -/
abbrev s_read_value : Stmt := top 13
theorem sc_read_value : FnScope ["text", "stack", "at", "value"] ["text"] (defScope s_read_value) := ⟨rfl, rfl, rfl, by decide +kernel, rfl, by decide +kernel, by decide +kernel⟩
noncomputable def read_value_t1 : ET :=
    qTru (eV 1)
noncomputable def read_value_b1 : SS :=
    sSeq (sDrop (eMu muAppend (eBin gIx (eV 1) (eUn gNeg (eC (.int 1)))) (eCons (eV 3) (eNil))))
    (sSeq (sIf (qOr (qB (eBin (gEqD false) (eV 2) (eCB gLen (eCons (eV 0) (eNil))))) (qB (eBin (gInA true) (eBin gIx (eV 0) (eV 2)) (eC (.str " )"))))) (sRaise "BadText" ["at"] (eCons (eV 2) (eNil))) (sSkip))
    (sSeq (sAug 2 gAddI (eC (.int 1)))
    (sSeq (sIf (qB (eBin (gEqD false) (eBin gIx (eV 0) (eBin gSubI (eV 2) (eC (.int 1)))) (eC (.str " ")))) (sBreak) (sSkip))
    (sAsg (eOwn (eCB gTuple (eCons (eMu muPop (eV 1) eNil) (eNil)))) (gD 3)))))
noncomputable def read_value_o1 : SS :=
    sSeq (sIf (qB (eBin gLtI (eV 2) (eCB gLen (eCons (eV 0) (eNil))))) (sRaise "BadText" ["at"] (eCons (eV 2) (eNil))) (sSkip))
    (sRet (eV 3))
noncomputable def read_value_l1 : SS :=
    whF read_value_t1 read_value_b1 read_value_o1 fuel
noncomputable def read_value_t2 : ET :=
    qTru (eC (.bl true))
noncomputable def read_value_b2 : SS :=
    sSeq (sIf (qB (eBin (gEqD false) (eV 2) (eCB gLen (eCons (eV 0) (eNil))))) (sRaise "BadText" ["at"] (eCons (eV 2) (eNil))) (sSkip))
    (sSeq (sIf (qB (eBin (gEqD true) (eBin gIx (eV 0) (eV 2)) (eC (.str "(")))) (sAsg (eOwn (eCall (m_read_plain) 2 (eCons (eV 0) (eCons (eV 2) (eNil))))) (gTupD (gConsD (gD 3) (gConsD (gD 2) (gNilD))))) (sSeq (sIf (qB (eBin (gEqD false) (eCB gLen (eCons (eV 1) (eNil))) (eC (.int 100)))) (sRaise "BadText" ["at"] (eCons (eV 2) (eNil))) (sSkip))
    (sSeq (sAug 2 gAddI (eC (.int 1)))
    (sSeq (sIf (qOr (qB (eBin (gEqD false) (eV 2) (eCB gLen (eCons (eV 0) (eNil))))) (qB (eBin (gEqD true) (eBin gIx (eV 0) (eV 2)) (eC (.str ")"))))) (sSeq (sDrop (eMu muAppend (eV 1) (eCons (eOwn (eLst (eNil))) (eNil))))
    (sCont)) (sSkip))
    (sSeq (sAsg (eOwn (eTup (eNil))) (gD 3))
    (sAug 2 gAddI (eC (.int 1))))))))
    (read_value_l1))
noncomputable def read_value_o2 : SS :=
    sSkip
noncomputable def read_value_l2 : SS :=
    whF read_value_t2 read_value_b2 read_value_o2 fuel
noncomputable def b_read_value : SS :=
    sSeq (sAsg (eOwn (eLst (eNil))) (gD 1))
    (sSeq (sAsg (eOwn (eC (.int 0))) (gD 2))
    (read_value_l2))
noncomputable def m_read_value : Mir := runF 4 b_read_value
/-! _law_write(value): slots 0=value 1=part -/
abbrev s__law_write : Stmt := top 19
theorem sc__law_write : FnScope ["value", "part"] ["value"] (defScope s__law_write) := ⟨rfl, rfl, rfl, by decide +kernel, rfl, by decide +kernel, by decide +kernel⟩
noncomputable def _law_write_c1 (m_rec : Mir) : EE :=
    eLc (iSeq (eV 0)) (gD 1) (qYes) (eCall (m_rec) 1 (eCons (eV 1) (eNil))) [1]
noncomputable def b__law_write (m_rec : Mir) : SS :=
    sSeq (sIf (qTru (eCB gIsi (eCons (eV 0) (eCons (eC (.ty "tuple")) (eNil))))) (sRet (eBin gAdd (eBin gAdd (eC (.str "(")) (eMs gJoin (eC (.str " ")) (eCons ((_law_write_c1 m_rec)) (eNil)))) (eC (.str ")")))) (sSkip))
    (sRet (eCB gStr (eCons (eV 0) (eNil))))
noncomputable def m__law_write : Nat → Mir
  | 0 => fun _ => none
  | d + 1 => runF 2 (b__law_write (m__law_write d))
/-! _law_same(actual, expected): slots 0=actual 1=expected 2=k -/
abbrev s__law_same : Stmt := top 20
theorem sc__law_same : FnScope ["actual", "expected", "k"] ["actual", "expected"] (defScope s__law_same) := ⟨rfl, rfl, rfl, by decide +kernel, rfl, by decide +kernel, by decide +kernel⟩
noncomputable def _law_same_b1 (m_rec : Mir) : SS :=
    sIf (qNot (qTru (eCall (m_rec) 2 (eCons (eBin gIx (eV 0) (eV 2)) (eCons (eBin gIx (eV 1) (eV 2)) (eNil)))))) (sRet (eC (.bl false))) (sSkip)
noncomputable def _law_same_l1 (m_rec : Mir) : SS :=
    sFor (iR1 (eCons (eCB gLen (eCons (eV 1) (eNil))) (eNil))) (gD 2) ((_law_same_b1 m_rec))
noncomputable def b__law_same (m_rec : Mir) : SS :=
    sSeq (sIf (qTru (eCB gIsi (eCons (eV 1) (eCons (eC (.ty "tuple")) (eNil))))) (sSeq (sIf (qOr (qNot (qTru (eCB gIsi (eCons (eV 0) (eCons (eC (.ty "tuple")) (eNil)))))) (qB (eBin (gEqD true) (eCB gLen (eCons (eV 0) (eNil))) (eCB gLen (eCons (eV 1) (eNil)))))) (sRet (eC (.bl false))) (sSkip))
    (sSeq ((_law_same_l1 m_rec))
    (sRet (eC (.bl true))))) (sSkip))
    (sSeq (sIf (qTru (eCB gIsi (eCons (eV 1) (eCons (eC (.ty "str")) (eNil))))) (sRet (eAnd (eCB gIsi (eCons (eV 0) (eCons (eC (.ty "str")) (eNil)))) (eBin (gEqD false) (eV 0) (eV 1)))) (sSkip))
    (sRet (eAnd (eCB gIsi (eCons (eV 0) (eCons (eC (.ty "int")) (eNil)))) (eAnd (eNot (eCB gIsi (eCons (eV 0) (eCons (eC (.ty "bool")) (eNil))))) (eBin (gEqD false) (eV 0) (eV 1))))))
noncomputable def m__law_same : Nat → Mir
  | 0 => fun _ => none
  | d + 1 => runF 3 (b__law_same (m__law_same d))
/-! _law_step(state, sign): slots 0=state 1=sign 2=mode 3=depth 4=run -/
abbrev s__law_step : Stmt := top 21
theorem sc__law_step : FnScope ["state", "sign", "mode", "depth", "run"] ["state", "sign"] (defScope s__law_step) := ⟨rfl, rfl, rfl, by decide +kernel, rfl, by decide +kernel, by decide +kernel⟩
noncomputable def b__law_step : SS :=
    sSeq (sAsg (eOwn (eBin gIx (eV 0) (eC (.int 0)))) (gD 2))
    (sSeq (sAsg (eOwn (eBin gIx (eV 0) (eC (.int 1)))) (gD 3))
    (sSeq (sAsg (eOwn (eBin gIx (eV 0) (eC (.int 2)))) (gD 4))
    (sSeq (sIf (qOr (qB (eBin (gEqD false) (eV 2) (eC (.str "start")))) (qB (eBin (gEqD false) (eV 2) (eC (.str "first"))))) (sSeq (sIf (qAnd (qB (eBin (gEqD false) (eV 1) (eC (.str "(")))) (qB (eBin gLtI (eV 3) (eC (.int 100))))) (sRet (eTup (eCons (eC (.str "first")) (eCons (eBin gAdd (eV 3) (eC (.int 1))) (eCons (eC (.int 0)) (eNil)))))) (sSkip))
    (sSeq (sIf (qAnd (qB (eBin (gEqD false) (eV 1) (eC (.str ")")))) (qB (eBin (gEqD false) (eV 2) (eC (.str "first"))))) (sRet (eTup (eCons (eC (.str "after")) (eCons (eBin gSubI (eV 3) (eC (.int 1))) (eCons (eC (.int 0)) (eNil)))))) (sSkip))
    (sSeq (sIf (qB (eBin (gEqD false) (eV 1) (eC (.str "-")))) (sRet (eTup (eCons (eC (.str "minus")) (eCons (eV 3) (eCons (eC (.int 0)) (eNil)))))) (sSkip))
    (sSeq (sIf (qB (eBin (gEqD false) (eV 1) (eC (.str "0")))) (sRet (eTup (eCons (eC (.str "zero")) (eCons (eV 3) (eCons (eC (.int 0)) (eNil)))))) (sSkip))
    (sSeq (sIf (qB (eBin (gInA false) (eV 1) (eC (.str "123456789")))) (sRet (eTup (eCons (eC (.str "digits")) (eCons (eV 3) (eCons (eC (.int 1)) (eNil)))))) (sSkip))
    (sSeq (sIf (qB (eBin (gInA false) (eV 1) (eC (.str "abcdefghijklmnopqrstuvwxyz")))) (sRet (eTup (eCons (eC (.str "word")) (eCons (eV 3) (eCons (eC (.int 1)) (eNil)))))) (sSkip))
    (sRet (eC .non)))))))) (sSkip))
    (sSeq (sIf (qB (eBin (gEqD false) (eV 2) (eC (.str "minus")))) (sRet (eIf (qB (eBin (gInA false) (eV 1) (eC (.str "123456789")))) (eTup (eCons (eC (.str "digits")) (eCons (eV 3) (eCons (eC (.int 1)) (eNil))))) (eC .non))) (sSkip))
    (sSeq (sIf (qAnd (qB (eBin (gEqD false) (eV 2) (eC (.str "word")))) (qAnd (qB (eBin gLtI (eV 4) (eC (.int 20)))) (qB (eBin (gInA false) (eV 1) (eC (.str "abcdefghijklmnopqrstuvwxyz")))))) (sRet (eTup (eCons (eC (.str "word")) (eCons (eV 3) (eCons (eBin gAdd (eV 4) (eC (.int 1))) (eNil)))))) (sSkip))
    (sSeq (sIf (qAnd (qB (eBin (gEqD false) (eV 2) (eC (.str "digits")))) (qAnd (qB (eBin gLtI (eV 4) (eC (.int 200)))) (qB (eBin (gInA false) (eV 1) (eC (.str "0123456789")))))) (sRet (eTup (eCons (eC (.str "digits")) (eCons (eV 3) (eCons (eBin gAdd (eV 4) (eC (.int 1))) (eNil)))))) (sSkip))
    (sSeq (sIf (qAnd (qB (eBin (gEqD false) (eV 1) (eC (.str " ")))) (qB (eBin gGtI (eV 3) (eC (.int 0))))) (sRet (eTup (eCons (eC (.str "start")) (eCons (eV 3) (eCons (eC (.int 0)) (eNil)))))) (sSkip))
    (sSeq (sIf (qAnd (qB (eBin (gEqD false) (eV 1) (eC (.str ")")))) (qB (eBin gGtI (eV 3) (eC (.int 0))))) (sRet (eTup (eCons (eC (.str "after")) (eCons (eBin gSubI (eV 3) (eC (.int 1))) (eCons (eC (.int 0)) (eNil)))))) (sSkip))
    (sRet (eC .non))))))))))
noncomputable def m__law_step : Mir := runF 5 b__law_step
/-! _law_due(text): slots 0=text 1=state 2=at -/
abbrev s__law_due : Stmt := top 22
theorem sc__law_due : FnScope ["text", "state", "at"] ["text"] (defScope s__law_due) := ⟨rfl, rfl, rfl, by decide +kernel, rfl, by decide +kernel, by decide +kernel⟩
noncomputable def _law_due_b1 : SS :=
    sSeq (sAsg (eOwn (eCall (m__law_step) 2 (eCons (eV 1) (eCons (eBin gIx (eV 0) (eV 2)) (eNil))))) (gD 1))
    (sIf (qB (eBin (gIsN false) (eV 1) (eC .non))) (sRet (eV 2)) (sSkip))
noncomputable def _law_due_l1 : SS :=
    sFor (iR1 (eCons (eCB gLen (eCons (eV 0) (eNil))) (eNil))) (gD 2) (_law_due_b1)
noncomputable def b__law_due : SS :=
    sSeq (sAsg (eOwn (eTup (eCons (eC (.str "start")) (eCons (eC (.int 0)) (eCons (eC (.int 0)) (eNil)))))) (gD 1))
    (sSeq (_law_due_l1)
    (sSeq (sIf (qAnd (qB (eBin (gEqD false) (eBin gIx (eV 1) (eC (.int 1))) (eC (.int 0)))) (qB (eBin (gInA false) (eBin gIx (eV 1) (eC (.int 0))) (eTup (eCons (eC (.str "word")) (eCons (eC (.str "digits")) (eCons (eC (.str "zero")) (eCons (eC (.str "after")) (eNil))))))))) (sRet (eC .non)) (sSkip))
    (sRet (eCB gLen (eCons (eV 0) (eNil))))))
noncomputable def m__law_due : Mir := runF 3 b__law_due
/-! _law_read_as_due(text): slots 0=text 1=due 2=value 3=e 4=at -/
abbrev s__law_read_as_due : Stmt := top 24
theorem sc__law_read_as_due : FnScope ["text", "due", "value", "e", "at"] ["text"] (defScope s__law_read_as_due) := ⟨rfl, rfl, rfl, by decide +kernel, rfl, by decide +kernel, by decide +kernel⟩
noncomputable def _law_read_as_due_h1 : Addr → Addr → Exn → SS :=
    fun a_ d_ x_ => sSeq (sAsg (eOwn (eXf xfT a_ d_ x_ "at" (eV 3))) (gD 4))
    (sRet (eAnd (eBin (gIsN true) (eV 1) (eC .non)) (eAnd (eCB gIsi (eCons (eV 4) (eCons (eC (.ty "int")) (eNil)))) (eAnd (eNot (eCB gIsi (eCons (eV 4) (eCons (eC (.ty "bool")) (eNil))))) (eBin (gEqD false) (eV 4) (eV 1))))))
noncomputable def _law_read_as_due_h2 : Addr → Addr → Exn → SS :=
    fun a_ d_ x_ => sRet (eC (.bl false))
noncomputable def b__law_read_as_due : SS :=
    sSeq (sAsg (eOwn (eCall (m__law_due) 1 (eCons (eV 0) (eNil)))) (gD 1))
    (sSeq (sTry exT (sAsg (eOwn (eCall (m_read_value) 1 (eCons (eV 0) (eNil)))) (gD 2)) [⟨"BadName", none, _law_read_as_due_h2⟩, ⟨"BadText", some 3, _law_read_as_due_h1⟩])
    (sRet (eAnd (eBin (gIsN false) (eV 1) (eC .non)) (eAnd (eBin (gEqD false) (eCall (m__law_write 110) 1 (eCons (eV 2) (eNil))) (eV 0)) (eCall (m__law_same 110) 2 (eCons (eCall (m_read_value) 1 (eCons (eCall (m__law_write 110) 1 (eCons (eV 2) (eNil))) (eNil))) (eCons (eV 2) (eNil))))))))
noncomputable def m__law_read_as_due : Mir := runF 5 b__law_read_as_due
/-! _law_cell(script, k): slots 0=script 1=k -/
abbrev s__law_cell : Stmt := top 15
theorem sc__law_cell : FnScope ["script", "k"] ["script", "k"] (defScope s__law_cell) := ⟨rfl, rfl, rfl, by decide +kernel, rfl, by decide +kernel, by decide +kernel⟩
noncomputable def b__law_cell : SS :=
    sSeq (sIf (qB (eBin gLtI (eV 1) (eCB gLen (eCons (eV 0) (eNil))))) (sRet (eBin gIx (eV 0) (eV 1))) (sSkip))
    (sRet (eC (.int 0)))
noncomputable def m__law_cell : Mir := runF 2 b__law_cell
/-! _law_spoilt(text, cell): slots 0=text 1=cell 2=signs 3=way 4=place 5=sign -/
abbrev s__law_spoilt : Stmt := top 23
theorem sc__law_spoilt : FnScope ["text", "cell", "signs", "way", "place", "sign"] ["text", "cell"] (defScope s__law_spoilt) := ⟨rfl, rfl, rfl, by decide +kernel, rfl, by decide +kernel, by decide +kernel⟩
noncomputable def b__law_spoilt : SS :=
    sSeq (sAsg (eOwn (eC (.str "() -0179azA+,\n"))) (gD 2))
    (sSeq (sAsg (eOwn (eBin gModI (eCB gIntA (eCons (eV 1) (eNil))) (eC (.int 6)))) (gD 3))
    (sSeq (sAsg (eOwn (eBin gModI (eBin gDivI (eCB gIntA (eCons (eV 1) (eNil))) (eC (.int 6))) (eBin gAdd (eCB gLen (eCons (eV 0) (eNil))) (eC (.int 1))))) (gD 4))
    (sSeq (sAsg (eOwn (eBin gIx (eV 2) (eBin gModI (eBin gDivI (eCB gIntA (eCons (eV 1) (eNil))) (eC (.int 7))) (eC (.int 14))))) (gD 5))
    (sSeq (sIf (qB (eBin (gEqD false) (eV 3) (eC (.int 0)))) (sRet (eBin gAdd (eBin gAdd (eSl gSl (eV 0) (oNone) (oSome (eV 4))) (eV 5)) (eSl gSl (eV 0) (oSome (eV 4)) (oNone)))) (sSkip))
    (sSeq (sIf (qB (eBin (gEqD false) (eV 3) (eC (.int 1)))) (sRet (eBin gAdd (eSl gSl (eV 0) (oNone) (oSome (eV 4))) (eSl gSl (eV 0) (oSome (eBin gAdd (eV 4) (eC (.int 1)))) (oNone)))) (sSkip))
    (sSeq (sIf (qB (eBin (gEqD false) (eV 3) (eC (.int 2)))) (sRet (eBin gAdd (eBin gAdd (eSl gSl (eV 0) (oNone) (oSome (eV 4))) (eV 5)) (eSl gSl (eV 0) (oSome (eBin gAdd (eV 4) (eC (.int 1)))) (oNone)))) (sSkip))
    (sSeq (sIf (qB (eBin (gEqD false) (eV 3) (eC (.int 3)))) (sRet (eSl gSl (eV 0) (oNone) (oSome (eV 4)))) (sSkip))
    (sSeq (sIf (qB (eBin (gEqD false) (eV 3) (eC (.int 4)))) (sRet (eBin gAdd (eSl gSl (eV 0) (oNone) (oSome (eBin gAdd (eV 4) (eC (.int 1))))) (eSl gSl (eV 0) (oSome (eV 4)) (oNone)))) (sSkip))
    (sRet (eBin gAdd (eV 0) (eV 5)))))))))))
noncomputable def m__law_spoilt : Mir := runF 6 b__law_spoilt
/-! value_text(value): slots 0=value 1=part -/
abbrev s_value_text : Stmt := top 10
theorem sc_value_text : FnScope ["value", "part"] ["value"] (defScope s_value_text) := ⟨rfl, rfl, rfl, by decide +kernel, rfl, by decide +kernel, by decide +kernel⟩
noncomputable def value_text_c1 (m_rec : Mir) : EE :=
    eLc (iSeq (eV 0)) (gD 1) (qYes) (eCall (m_rec) 1 (eCons (eV 1) (eNil))) [1]
noncomputable def b_value_text (m_rec : Mir) : SS :=
    sSeq (sIf (qTru (eCB gIsi (eCons (eV 0) (eCons (eC (.ty "tuple")) (eNil))))) (sRet (eBin gAdd (eBin gAdd (eC (.str "(")) (eMs gJoin (eC (.str " ")) (eCons ((value_text_c1 m_rec)) (eNil)))) (eC (.str ")")))) (sSkip))
    (sRet (eCB gStr (eCons (eV 0) (eNil))))
noncomputable def m_value_text : Nat → Mir
  | 0 => fun _ => none
  | d + 1 => runF 2 (b_value_text (m_value_text d))
/-! _law_draws(cell, many): slots 0=cell 1=many 2=draws 3=rest 4=k 5=state 6=other -/
abbrev s__law_draws : Stmt := top 16
theorem sc__law_draws : FnScope ["cell", "many", "draws", "rest", "k", "state", "other"] ["cell", "many"] (defScope s__law_draws) := ⟨rfl, rfl, rfl, by decide +kernel, rfl, by decide +kernel, by decide +kernel⟩
noncomputable def _law_draws_b1 : SS :=
    sSeq (sAsg (eOwn (eBin gModI (eCB gIntA (eCons (eBin gAdd (eBin gAdd (eBin gMulA (eV 5) (eC (.int 48271))) (eBin gMulA (eC (.int 12345)) (eV 4))) (eC (.int 7))) (eNil))) (eC (.int 2147483647)))) (gD 5))
    (sSeq (sAsg (eOwn (eBin gModI (eCB gIntA (eCons (eBin gAdd (eBin gMulA (eV 5) (eC (.int 69621))) (eV 4)) (eNil))) (eC (.int 1000003)))) (gD 6))
    (sDrop (eMu muAppend (eV 2) (eCons (eBin gModI (eBin gDivI (eV 6) (eC (.int 3))) (eC (.int 60))) (eNil)))))
noncomputable def _law_draws_l1 : SS :=
    sFor (iR1 (eCons (eV 1) (eNil))) (gD 4) (_law_draws_b1)
noncomputable def _law_draws_b2 : SS :=
    sSeq (sDrop (eMu muAppend (eV 2) (eCons (eBin gModI (eV 3) (eC (.int 60))) (eNil))))
    (sAsg (eOwn (eBin gDivI (eV 3) (eC (.int 60)))) (gD 3))
noncomputable def _law_draws_l2 : SS :=
    sFor (iR1 (eCons (eV 1) (eNil))) (gD 4) (_law_draws_b2)
noncomputable def b__law_draws : SS :=
    sSeq (sAsg (eOwn (eLst (eNil))) (gD 2))
    (sSeq (sAsg (eOwn (eCB gAbs (eCons (eV 0) (eNil)))) (gD 3))
    (sSeq (sIf (qB (eBin gGeI (eV 3) (eBin gPowI (eC (.int 10)) (eC (.int 18))))) (sSeq (_law_draws_l2)
    (sRet (eV 2))) (sSkip))
    (sSeq (sAsg (eOwn (eBin gAdd (eV 3) (eC (.int 17)))) (gD 5))
    (sSeq (_law_draws_l1)
    (sRet (eV 2))))))
noncomputable def m__law_draws : Mir := runF 7 b__law_draws
/-! _law_word(cell): slots 0=cell 1=letters 2=draws 3=k -/
abbrev s__law_word : Stmt := top 17
theorem sc__law_word : FnScope ["cell", "letters", "draws", "k"] ["cell"] (defScope s__law_word) := ⟨rfl, rfl, rfl, by decide +kernel, rfl, by decide +kernel, by decide +kernel⟩
noncomputable def _law_word_c1 : EE :=
    eLc (iR1 (eCons (eBin gAdd (eC (.int 1)) (eBin gModI (eBin gIx (eV 2) (eC (.int 0))) (eC (.int 20)))) (eNil))) (gD 3) (qYes) (eBin gIx (eV 1) (eBin gModI (eBin gAdd (eBin gIx (eV 2) (eBin gAdd (eV 3) (eC (.int 1)))) (eV 3)) (eC (.int 26)))) [3]
noncomputable def b__law_word : SS :=
    sSeq (sAsg (eOwn (eC (.str "abcdefghijklmnopqrstuvwxyz"))) (gD 1))
    (sSeq (sAsg (eOwn (eCall (m__law_draws) 2 (eCons (eV 0) (eCons (eC (.int 21)) (eNil))))) (gD 2))
    (sRet (eMs gJoin (eC (.str "")) (eCons (_law_word_c1) (eNil)))))
noncomputable def m__law_word : Mir := runF 4 b__law_word
/-! _law_value(script): slots 0=script 1=stack 2=large 3=cell 4=kind 5=size 6=done 7=value 8=first 9=k -/
abbrev s__law_value : Stmt := top 18
theorem sc__law_value : FnScope ["script", "stack", "large", "cell", "kind", "size", "done", "value", "first", "k"] ["script"] (defScope s__law_value) := ⟨rfl, rfl, rfl, by decide +kernel, rfl, by decide +kernel, by decide +kernel⟩
noncomputable def _law_value_b1 : SS :=
    sAsg (eOwn (eTup (eCons (eV 7) (eNil)))) (gD 7)
noncomputable def _law_value_l1 : SS :=
    sFor (iR1 (eCons (eBin gModI (eBin gDivI (eCB gIntA (eCons (eV 8) (eNil))) (eC (.int 240))) (eC (.int 92))) (eNil))) (gD 9) (_law_value_b1)
noncomputable def _law_value_t1 : ET :=
    qB (eBin gGtI (eCB gLen (eCons (eV 1) (eNil))) (eC (.int 1)))
noncomputable def _law_value_b2 : SS :=
    sSeq (sAsg (eOwn (eCB gTuple (eCons (eMu muPop (eV 1) eNil) (eNil)))) (gD 6))
    (sDrop (eMu muAppend (eBin gIx (eV 1) (eUn gNeg (eC (.int 1)))) (eCons (eV 6) (eNil))))
noncomputable def _law_value_o1 : SS :=
    sSkip
noncomputable def _law_value_l2 : SS :=
    whF _law_value_t1 _law_value_b2 _law_value_o1 fuel
noncomputable def _law_value_b3 : SS :=
    sSeq (sAsg (eOwn (eBin gModI (eCB gIntA (eCons (eV 3) (eNil))) (eC (.int 7)))) (gD 4))
    (sSeq (sAsg (eOwn (eBin gDivI (eCB gIntA (eCons (eV 3) (eNil))) (eC (.int 7)))) (gD 5))
    (sIf (qB (eBin (gEqD false) (eV 4) (eC (.int 0)))) (sDrop (eMu muAppend (eBin gIx (eV 1) (eUn gNeg (eC (.int 1)))) (eCons (eBin gModI (eCB gIntA (eCons (eV 5) (eNil))) (eV 2)) (eNil)))) (sIf (qB (eBin (gEqD false) (eV 4) (eC (.int 1)))) (sDrop (eMu muAppend (eBin gIx (eV 1) (eUn gNeg (eC (.int 1)))) (eCons (eBin gSubI (eC (.int 0)) (eBin gModI (eCB gIntA (eCons (eV 5) (eNil))) (eV 2))) (eNil)))) (sIf (qB (eBin (gEqD false) (eV 4) (eC (.int 2)))) (sDrop (eMu muAppend (eBin gIx (eV 1) (eUn gNeg (eC (.int 1)))) (eCons (eBin gModI (eCB gIntA (eCons (eV 5) (eNil))) (eC (.int 12))) (eNil)))) (sIf (qB (eBin (gEqD false) (eV 4) (eC (.int 3)))) (sDrop (eMu muAppend (eBin gIx (eV 1) (eUn gNeg (eC (.int 1)))) (eCons (eCall (m__law_word) 1 (eCons (eV 5) (eNil))) (eNil)))) (sIf (qAnd (qB (eBin (gEqD false) (eV 4) (eC (.int 4)))) (qB (eBin gLtI (eCB gLen (eCons (eV 1) (eNil))) (eC (.int 8))))) (sDrop (eMu muAppend (eV 1) (eCons (eOwn (eLst (eNil))) (eNil)))) (sIf (qAnd (qB (eBin (gEqD false) (eV 4) (eC (.int 5)))) (qB (eBin gGtI (eCB gLen (eCons (eV 1) (eNil))) (eC (.int 1))))) (sSeq (sAsg (eOwn (eCB gTuple (eCons (eMu muPop (eV 1) eNil) (eNil)))) (gD 6))
    (sDrop (eMu muAppend (eBin gIx (eV 1) (eUn gNeg (eC (.int 1)))) (eCons (eV 6) (eNil))))) (sDrop (eMu muAppend (eBin gIx (eV 1) (eUn gNeg (eC (.int 1)))) (eCons (eTup (eNil)) (eNil)))))))))))
noncomputable def _law_value_l3 : SS :=
    sFor (iSeq (eSl gSl (eV 0) (oSome (eC (.int 1))) (oSome (eC (.int 61))))) (gD 3) (_law_value_b3)
noncomputable def b__law_value : SS :=
    sSeq (sAsg (eOwn (eLst (eCons (eOwn (eLst (eNil))) (eNil)))) (gD 1))
    (sSeq (sAsg (eOwn (eBin gMulA (eBin gMulA (eBin gMulA (eBin gPowI (eC (.int 10)) (eC (.int 50))) (eBin gPowI (eC (.int 10)) (eC (.int 50)))) (eBin gPowI (eC (.int 10)) (eC (.int 50)))) (eBin gPowI (eC (.int 10)) (eC (.int 50))))) (gD 2))
    (sSeq (_law_value_l3)
    (sSeq (_law_value_l2)
    (sSeq (sAsg (eOwn (eCB gTuple (eCons (eBin gIx (eV 1) (eC (.int 0))) (eNil)))) (gD 7))
    (sSeq (sAsg (eOwn (eCall (m__law_cell) 2 (eCons (eV 0) (eCons (eC (.int 0)) (eNil))))) (gD 8))
    (sSeq (sIf (qAnd (qB (eBin gGtI (eCB gLen (eCons (eV 7) (eNil))) (eC (.int 0)))) (qB (eBin (gEqD false) (eBin gModI (eCB gIntA (eCons (eV 8) (eNil))) (eC (.int 3))) (eC (.int 1))))) (sAsg (eOwn (eBin gIx (eV 7) (eBin gModI (eBin gDivI (eCB gIntA (eCons (eV 8) (eNil))) (eC (.int 3))) (eCB gLen (eCons (eV 7) (eNil)))))) (gD 7)) (sSkip))
    (sSeq (sIf (qB (eBin (gEqD false) (eBin gModI (eBin gDivI (eCB gIntA (eCons (eV 8) (eNil))) (eC (.int 60))) (eC (.int 4))) (eC (.int 1)))) (_law_value_l1) (sSkip))
    (sRet (eV 7)))))))))
noncomputable def m__law_value : Mir := runF 10 b__law_value
/-! law(script): slots 0=script 1=value 2=text 3=fixed 4=texts 5=k 6=spoilt 7=e -/
abbrev s_law : Stmt := top 25
theorem sc_law : FnScope ["script", "value", "text", "fixed", "texts", "k", "spoilt", "e"] ["script"] (defScope s_law) := ⟨rfl, rfl, rfl, by decide +kernel, rfl, by decide +kernel, by decide +kernel⟩
noncomputable def law_h1 : Addr → Addr → Exn → SS :=
    fun a_ d_ x_ => sRet (eAnd (eCB (gIsE kiT kiT2 a_ d_ x_.cls) (eCons (eV 7) (eCons (eC (.ty "ValueError")) (eNil)))) (eAnd (eCB (gIsE kiT kiT2 a_ d_ x_.cls) (eCons (eV 7) (eCons (eC (.glob "BadText")) (eNil)))) (eAnd (eNot (eCB (gIsE kiT kiT2 a_ d_ x_.cls) (eCons (eV 7) (eCons (eC (.glob "BadName")) (eNil))))) (eBin (gEqD false) (eXf xfT a_ d_ x_ "at" (eV 7)) (eC (.int 100))))))
noncomputable def law_s10 : SS :=
    sTry exT (sDrop (eCall (m_read_value) 1 (eCons (eBin gMulA (eC (.str "(")) (eC (.int 101))) (eNil)))) [⟨"BookError", some 7, law_h1⟩]
noncomputable def law_b1 : SS :=
    sIf (qNot (qTru (eCall (m__law_read_as_due) 1 (eCons (eV 6) (eNil))))) (sRet (eC (.bl false))) (sSkip)
noncomputable def law_l1 : SS :=
    sFor (iSeq (eV 4)) (gD 6) (law_b1)
noncomputable def law_b2 : SS :=
    sDrop (eMu muAppend (eV 4) (eCons (eCall (m__law_spoilt) 2 (eCons (eBin gIx (eV 4) (eBin gAdd (eC (.int 3)) (eV 5))) (eCons (eBin gDivI (eCB gAbs (eCons (eCall (m__law_cell) 2 (eCons (eV 0) (eCons (eV 5) (eNil)))) (eNil))) (eC (.int 9))) (eNil)))) (eNil)))
noncomputable def law_l2 : SS :=
    sFor (iR1 (eCons (eC (.int 2)) (eNil))) (gD 5) (law_b2)
noncomputable def law_b3 : SS :=
    sDrop (eMu muAppend (eV 4) (eCons (eCall (m__law_spoilt) 2 (eCons (eV 2) (eCons (eBin gAdd (eBin gAdd (eBin gDivI (eCB gAbs (eCons (eCall (m__law_cell) 2 (eCons (eV 0) (eCons (eBin gSubI (eC (.int 61)) (eV 5)) (eNil)))) (eNil))) (eC (.int 5))) (eBin gMulA (eC (.int 11)) (eV 5))) (eCB gLen (eCons (eV 0) (eNil)))) (eNil)))) (eNil)))
noncomputable def law_l3 : SS :=
    sFor (iR1 (eCons (eC (.int 3)) (eNil))) (gD 5) (law_b3)
noncomputable def law_s6 : SS :=
    sAsg (eOwn (eLst (eCons (eBin gIx (eV 3) (eBin gModI (eCB gIntA (eCons (eCall (m__law_cell) 2 (eCons (eV 0) (eCons (eC (.int 0)) (eNil)))) (eNil))) (eC (.int 15)))) (eCons (eBin gAdd (eBin gMulA (eC (.str "(")) (eC (.int 101))) (eBin gMulA (eC (.str ")")) (eC (.int 101)))) (eCons (eBin gAdd (eBin gMulA (eC (.str "(")) (eC (.int 100))) (eBin gMulA (eC (.str ")")) (eC (.int 100)))) (eNil)))))) (gD 4)
noncomputable def law_s5 : SS :=
    sAsg (eOwn (eLst (eCons (eC (.str "")) (eCons (eC (.str "(")) (eCons (eC (.str ")")) (eCons (eC (.str "-")) (eCons (eC (.str "-0")) (eCons (eC (.str "00")) (eCons (eC (.str "( )")) (eCons (eC (.str "()")) (eCons (eC (.str "(1 )")) (eCons (eC (.str "1 ")) (eCons (eC (.str " 1")) (eCons (eC (.str "a1")) (eCons (eC (.str "1a")) (eCons (eC (.str "(1  2)")) (eCons (eC (.str "())")) (eNil)))))))))))))))))) (gD 3)
noncomputable def law_s4 : SS :=
    sIf (qNot (qTru (eCall (m__law_same 110) 2 (eCons (eCall (m_read_value) 1 (eCons (eV 2) (eNil))) (eCons (eV 1) (eNil)))))) (sRet (eC (.bl false))) (sSkip)
noncomputable def law_s3 : SS :=
    sIf (qOr (qNot (qTru (eCB gIsi (eCons (eV 2) (eCons (eC (.ty "str")) (eNil)))))) (qB (eBin (gEqD true) (eV 2) (eCall (m__law_write 110) 1 (eCons (eV 1) (eNil)))))) (sRet (eC (.bl false))) (sSkip)
noncomputable def law_s2 : SS :=
    sAsg (eOwn (eCall (m_value_text 110) 1 (eCons (eV 1) (eNil)))) (gD 2)
noncomputable def law_s1 : SS :=
    sAsg (eOwn (eCall (m__law_value) 1 (eCons (eV 0) (eNil)))) (gD 1)
noncomputable def b_law : SS :=
    sSeq (law_s1)
    (sSeq (law_s2)
    (sSeq (law_s3)
    (sSeq (law_s4)
    (sSeq (law_s5)
    (sSeq (law_s6)
    (sSeq (law_l3)
    (sSeq (law_l2)
    (sSeq (law_l1)
    (sSeq (law_s10)
    (sRet (eC (.bl false))))))))))))
noncomputable def m_law : Mir := runF 8 b_law
section
variable {P : Program} {w : World} {K : PySem.W.Frag} {mg : Mg} {base : Heap}
theorem body_run_end (B : Bi mg) (C : Co K mg) : Body P w K mg base 0 ["text", "at", "signs", "most", "last"] "run_end" s_run_end b_run_end := fun f cdv A outer s H E hr =>
    ps_cons (ps_assign (pd_own (pd_callB (cd_min2 rfl) (by rfl) B.b_min bo_min (pd_cons (pd_callB cd_len (by rfl) B.b_len bo_len (pd_cons (pd_var 0) (pd_nil))) (pd_cons (pd_bin od_add (pd_var 1) (pd_var 3)) (pd_nil))))) (pgd_name 4 sc_run_end.nd))
    (ps_cons (ps_whileD fuel (passes_of rfl) (PW.pt (pq_and (pq_cmp od_ltI (pd_var 1) (pd_var 4) (nomark _)) (pq_and1 (pq_cmp (od_inA (un65 hr)) (pd_ix xd_ix (pd_var 0) (pd_var 1) (fun _ _ => rfl)) (pd_var 2) (by with_unfolding_all rfl))))) (ps_one (ps_augN 1 sc_run_end.nd od_iaddI (pd_int))) (ps_nil))
    (ps_one (ps_return (pd_var 1))))
theorem body_read_plain (B : Bi mg) (C : Co K mg) (o_run_end : FnD P w K mg base "run_end" 1 4 (m_run_end)) (r_BadText : ErrOk P w K mg base "BadText" 1 ["at"]) : Body P w K mg base 2 ["text", "at", "end", "first"] "read_plain" s_read_plain b_read_plain := fun f cdv A outer s H E hr =>
    ps_cons (ps_iff (pq_cmp (od_inA (un65 hr)) (pd_ix xd_ix (pd_var 0) (pd_var 1) (fun _ _ => rfl)) (pd_gs C.c_LETTERS) (by with_unfolding_all rfl)) (ps_cons (ps_assign (pd_own (pd_call o_run_end (takes_of rfl rfl rfl rfl) hr (pd_cons (pd_var 0) (pd_cons (pd_var 1) (pd_cons (pd_gs C.c_LETTERS) (pd_cons (pd_gi C.c_LONGEST_WORD) (pd_nil))))))) (pgd_name 2 sc_read_plain.nd))
    (ps_one (ps_return (pd_tup (pd_cons (pd_slice sd_sl (pd_var 0) (pd_osome (pd_var 1)) (pd_osome (pd_var 2))) (pd_cons (pd_var 2) (pd_nil))))))) (ps_nil))
    (ps_cons (ps_assign (pd_own (pd_if (pq_cmp (od_eqD hr.units) (pd_ix xd_ix (pd_var 0) (pd_var 1) (fun _ _ => rfl)) (pd_str) (nomark _)) (pd_bin od_add (pd_var 1) (pd_int)) (pd_var 1))) (pgd_name 3 sc_read_plain.nd))
    (ps_cons (ps_iff (PW.pt (pq_or (pq_cmp (od_eqD hr.units) (pd_var 3) (pd_callB cd_len (by rfl) B.b_len bo_len (pd_cons (pd_var 0) (pd_nil))) (nomark _)) (pq_or (pq_cmp (od_notInA (un65 hr)) (pd_ix xd_ix (pd_var 0) (pd_var 3) (fun _ _ => rfl)) (pd_gs C.c_DIGITS) (by with_unfolding_all rfl)) (pq_or1 (PW.pt (pq_and (pq_cmp (od_eqD hr.units) (pd_ix xd_ix (pd_var 0) (pd_var 3) (fun _ _ => rfl)) (pd_str) (nomark _)) (pq_and1 (pq_cmp od_gtI (pd_var 3) (pd_var 1) (nomark _))))))))) (ps_one (ps_raiseE r_BadText rfl (takes_of rfl rfl rfl rfl) hr (pd_cons (pd_var 3) (pd_nil)))) (ps_nil))
    (ps_cons (ps_iff (pq_cmp (od_eqD hr.units) (pd_ix xd_ix (pd_var 0) (pd_var 3) (fun _ _ => rfl)) (pd_str) (nomark _)) (ps_one (ps_return (pd_tup (pd_cons (pd_int) (pd_cons (pd_bin od_add (pd_var 3) (pd_int)) (pd_nil)))))) (ps_nil))
    (ps_cons (ps_assign (pd_own (pd_call o_run_end (takes_of rfl rfl rfl rfl) hr (pd_cons (pd_var 0) (pd_cons (pd_var 3) (pd_cons (pd_gs C.c_DIGITS) (pd_cons (pd_gi C.c_LONGEST_NUMBER) (pd_nil))))))) (pgd_name 2 sc_read_plain.nd))
    (ps_one (ps_return (pd_tup (pd_cons (pd_callTy cd_intA (by rfl) B.b_int bo_int (pd_cons (pd_slice sd_sl (pd_var 0) (pd_osome (pd_var 1)) (pd_osome (pd_var 2))) (pd_nil))) (pd_cons (pd_var 2) (pd_nil))))))))))
theorem body_read_value (B : Bi mg) (C : Co K mg) (o_read_plain : FnD P w K mg base "read_plain" 3 2 (m_read_plain)) (r_BadText : ErrOk P w K mg base "BadText" 1 ["at"]) : Body P w K mg base 3 ["text", "stack", "at", "value"] "read_value" s_read_value b_read_value := fun f cdv A outer s H E hr =>
    ps_cons (ps_assign (pd_own (pd_lst (pd_nil))) (pgd_name 1 sc_read_value.nd))
    (ps_cons (ps_assign (pd_own (pd_int)) (pgd_name 2 sc_read_value.nd))
    (ps_one (ps_whileD fuel (passes_of rfl) (pq_tru (pd_bl)) (ps_cons (ps_iff (pq_cmp (od_eqD hr.units) (pd_var 2) (pd_callB cd_len (by rfl) B.b_len bo_len (pd_cons (pd_var 0) (pd_nil))) (nomark _)) (ps_one (ps_raiseE r_BadText rfl (takes_of rfl rfl rfl rfl) hr (pd_cons (pd_var 2) (pd_nil)))) (ps_nil))
    (ps_cons (ps_iff (pq_cmp (od_neD hr.units) (pd_ix xd_ix (pd_var 0) (pd_var 2) (fun _ _ => rfl)) (pd_str) (nomark _)) (ps_one (ps_assign (pd_own (pd_call o_read_plain (takes_of rfl rfl rfl rfl) hr (pd_cons (pd_var 0) (pd_cons (pd_var 2) (pd_nil))))) (pgd_tup 2 rfl (pgd_cons (pgd_name 3 sc_read_value.nd) (pgd_cons (pgd_name 2 sc_read_value.nd) (pgd_nil))) (gConsD_len (gConsD_len (gNilD_len)))))) (ps_cons (ps_iff (pq_cmp (od_eqD hr.units) (pd_callB cd_len (by rfl) B.b_len bo_len (pd_cons (pd_var 1) (pd_nil))) (pd_gi C.c_DEEPEST) (nomark _)) (ps_one (ps_raiseE r_BadText rfl (takes_of rfl rfl rfl rfl) hr (pd_cons (pd_var 2) (pd_nil)))) (ps_nil))
    (ps_cons (ps_augN 2 sc_read_value.nd od_iaddI (pd_int))
    (ps_cons (ps_iff (PW.pt (pq_or (pq_cmp (od_eqD hr.units) (pd_var 2) (pd_callB cd_len (by rfl) B.b_len bo_len (pd_cons (pd_var 0) (pd_nil))) (nomark _)) (pq_or1 (pq_cmp (od_neD hr.units) (pd_ix xd_ix (pd_var 0) (pd_var 2) (fun _ _ => rfl)) (pd_str) (nomark _))))) (ps_cons (ps_drop (pd_mu PySem.F.slot_list_append PySem.F.type_list_append mu_append (pd_var 1) (pd_cons (pd_own (pd_lst (pd_nil))) (pd_nil))))
    (ps_one (ps_ct))) (ps_nil))
    (ps_cons (ps_assign (pd_own (pd_tup (pd_nil))) (pgd_name 3 sc_read_value.nd))
    (ps_one (ps_augN 2 sc_read_value.nd od_iaddI (pd_int))))))))
    (ps_one (ps_whileD fuel (passes_of rfl) (pq_tru (pd_var 1)) (ps_cons (ps_drop (pd_mu PySem.F.slot_list_append PySem.F.type_list_append mu_append (pd_ix xd_ix (pd_var 1) (pd_un ud_neg (pd_int)) (fun _ _ => rfl)) (pd_cons (pd_var 3) (pd_nil))))
    (ps_cons (ps_iff (PW.pt (pq_or (pq_cmp (od_eqD hr.units) (pd_var 2) (pd_callB cd_len (by rfl) B.b_len bo_len (pd_cons (pd_var 0) (pd_nil))) (nomark _)) (pq_or1 (pq_cmp (od_notInA (un65 hr)) (pd_ix xd_ix (pd_var 0) (pd_var 2) (fun _ _ => rfl)) (pd_str) (by with_unfolding_all rfl))))) (ps_one (ps_raiseE r_BadText rfl (takes_of rfl rfl rfl rfl) hr (pd_cons (pd_var 2) (pd_nil)))) (ps_nil))
    (ps_cons (ps_augN 2 sc_read_value.nd od_iaddI (pd_int))
    (ps_cons (ps_iff (pq_cmp (od_eqD hr.units) (pd_ix xd_ix (pd_var 0) (pd_bin od_subI (pd_var 2) (pd_int)) (fun _ _ => rfl)) (pd_str) (nomark _)) (ps_one (ps_brk)) (ps_nil))
    (ps_one (ps_assign (pd_own (pd_callTy cd_tuple (by rfl) B.b_tuple bo_tuple (pd_cons (pd_mu0 PySem.F.slot_list_pop PySem.F.type_list_pop mu_pop (pd_var 1)) (pd_nil)))) (pgd_name 3 sc_read_value.nd))))))) (ps_cons (ps_iff (pq_cmp od_ltI (pd_var 2) (pd_callB cd_len (by rfl) B.b_len bo_len (pd_cons (pd_var 0) (pd_nil))) (nomark _)) (ps_one (ps_raiseE r_BadText rfl (takes_of rfl rfl rfl rfl) hr (pd_cons (pd_var 2) (pd_nil)))) (ps_nil))
    (ps_one (ps_return (pd_var 3)))))))) (ps_nil))))
theorem body__law_write {m_rec : Mir} {j k : Nat} (B : Bi mg) (C : Co K mg) (o__law_write : FnD P w K mg base "_law_write" j 1 m_rec) (hk : j ≤ k) (h0 : 0 ≤ k) : Body P w K mg base k ["value", "part"] "_law_write" s__law_write (b__law_write m_rec) := fun f cdv A outer s H E hr =>
    ps_cons (ps_iff (pq_tru (pd_callB cd_isi (by rfl) B.b_isinstance bo_isinstance (pd_cons (pd_var 0) (pd_cons (pd_ty (by rfl) B.b_tuple bo_tuple) (pd_nil))))) (ps_one (ps_return (pd_bin od_add (pd_bin od_add (pd_str) (pd_ms PySem.F.slot_str_join PySem.F.type_str_join mt_joinD (pd_str) (pd_cons (pd_lc (own := [("part", 1)]) rfl sc__law_write.nd (pid_seq (pd_var 0)) (blkOk_by (N := ["value", "part"]) (sc := defScope s__law_write) (by decide +kernel)) (fun _ _ _ _ _ => pgd_name 1 sc__law_write.nd) (by decide) (fun _ _ _ _ _ => pts_none) (fun _ _ _ _ _ => pd_call (hk := hk) o__law_write takes0 hr (pd_cons (pd_var 1) (pd_nil)))) (pd_nil)))) (pd_str)))) (ps_nil))
    (ps_one (ps_return (pd_callTy cd_str (by rfl) B.b_str bo_str (pd_cons (pd_var 0) (pd_nil)))))
theorem body__law_same {m_rec : Mir} {j k : Nat} (B : Bi mg) (C : Co K mg) (o__law_same : FnD P w K mg base "_law_same" j 2 m_rec) (hk : j ≤ k) (h0 : 0 ≤ k) : Body P w K mg base k ["actual", "expected", "k"] "_law_same" s__law_same (b__law_same m_rec) := fun f cdv A outer s H E hr =>
    ps_cons (ps_iff (pq_tru (pd_callB cd_isi (by rfl) B.b_isinstance bo_isinstance (pd_cons (pd_var 1) (pd_cons (pd_ty (by rfl) B.b_tuple bo_tuple) (pd_nil))))) (ps_cons (ps_iff (PW.pt (pq_or (pq_not (pq_tru (pd_callB cd_isi (by rfl) B.b_isinstance bo_isinstance (pd_cons (pd_var 0) (pd_cons (pd_ty (by rfl) B.b_tuple bo_tuple) (pd_nil)))))) (pq_or1 (pq_cmp (od_neD hr.units) (pd_callB cd_len (by rfl) B.b_len bo_len (pd_cons (pd_var 0) (pd_nil))) (pd_callB cd_len (by rfl) B.b_len bo_len (pd_cons (pd_var 1) (pd_nil))) (nomark _))))) (ps_one (ps_return (pd_bl))) (ps_nil))
    (ps_cons (ps_loop (passes_of rfl) rfl (pid_range1 B.b_range (pd_cons (pd_callB cd_len (by rfl) B.b_len bo_len (pd_cons (pd_var 1) (pd_nil))) (pd_nil))) (pgd_name 2 sc__law_same.nd) (ps_one (ps_iff (pq_not (pq_tru (pd_call (hk := hk) o__law_same (takes_of rfl rfl rfl rfl) hr (pd_cons (pd_ix xd_ix (pd_var 0) (pd_var 2) (fun _ _ => rfl)) (pd_cons (pd_ix xd_ix (pd_var 1) (pd_var 2) (fun _ _ => rfl)) (pd_nil)))))) (ps_one (ps_return (pd_bl))) (ps_nil))))
    (ps_one (ps_return (pd_bl))))) (ps_nil))
    (ps_cons (ps_iff (pq_tru (pd_callB cd_isi (by rfl) B.b_isinstance bo_isinstance (pd_cons (pd_var 1) (pd_cons (pd_ty (by rfl) B.b_str bo_str) (pd_nil))))) (ps_one (ps_return (pd_and (pd_callB cd_isi (by rfl) B.b_isinstance bo_isinstance (pd_cons (pd_var 0) (pd_cons (pd_ty (by rfl) B.b_str bo_str) (pd_nil)))) (pd_one (pd_cmp (od_eqD hr.units) (pd_var 0) (pd_var 1) (nomark _)))))) (ps_nil))
    (ps_one (ps_return (pd_and (pd_callB cd_isi (by rfl) B.b_isinstance bo_isinstance (pd_cons (pd_var 0) (pd_cons (pd_ty (by rfl) B.b_int bo_int) (pd_nil)))) (pd_and (pd_not (pd_callB cd_isi (by rfl) B.b_isinstance bo_isinstance (pd_cons (pd_var 0) (pd_cons (pd_ty (by rfl) B.b_bool bo_bool) (pd_nil))))) (pd_one (pd_cmp (od_eqD hr.units) (pd_var 0) (pd_var 1) (nomark _))))))))
theorem body__law_step (B : Bi mg) (C : Co K mg) : Body P w K mg base 0 ["state", "sign", "mode", "depth", "run"] "_law_step" s__law_step b__law_step := fun f cdv A outer s H E hr =>
    ps_cons (ps_assign (pd_own (pd_ix xd_ix (pd_var 0) (pd_int) (fun _ _ => rfl))) (pgd_name 2 sc__law_step.nd))
    (ps_cons (ps_assign (pd_own (pd_ix xd_ix (pd_var 0) (pd_int) (fun _ _ => rfl))) (pgd_name 3 sc__law_step.nd))
    (ps_cons (ps_assign (pd_own (pd_ix xd_ix (pd_var 0) (pd_int) (fun _ _ => rfl))) (pgd_name 4 sc__law_step.nd))
    (ps_cons (ps_iff (PW.pt (pq_or (pq_cmp (od_eqD hr.units) (pd_var 2) (pd_str) (nomark _)) (pq_or1 (pq_cmp (od_eqD hr.units) (pd_var 2) (pd_str) (nomark _))))) (ps_cons (ps_iff (PW.pt (pq_and (pq_cmp (od_eqD hr.units) (pd_var 1) (pd_str) (nomark _)) (pq_and1 (pq_cmp od_ltI (pd_var 3) (pd_int) (nomark _))))) (ps_one (ps_return (pd_tup (pd_cons (pd_str) (pd_cons (pd_bin od_add (pd_var 3) (pd_int)) (pd_cons (pd_int) (pd_nil))))))) (ps_nil))
    (ps_cons (ps_iff (PW.pt (pq_and (pq_cmp (od_eqD hr.units) (pd_var 1) (pd_str) (nomark _)) (pq_and1 (pq_cmp (od_eqD hr.units) (pd_var 2) (pd_str) (nomark _))))) (ps_one (ps_return (pd_tup (pd_cons (pd_str) (pd_cons (pd_bin od_subI (pd_var 3) (pd_int)) (pd_cons (pd_int) (pd_nil))))))) (ps_nil))
    (ps_cons (ps_iff (pq_cmp (od_eqD hr.units) (pd_var 1) (pd_str) (nomark _)) (ps_one (ps_return (pd_tup (pd_cons (pd_str) (pd_cons (pd_var 3) (pd_cons (pd_int) (pd_nil))))))) (ps_nil))
    (ps_cons (ps_iff (pq_cmp (od_eqD hr.units) (pd_var 1) (pd_str) (nomark _)) (ps_one (ps_return (pd_tup (pd_cons (pd_str) (pd_cons (pd_var 3) (pd_cons (pd_int) (pd_nil))))))) (ps_nil))
    (ps_cons (ps_iff (pq_cmp (od_inA (un65 hr)) (pd_var 1) (pd_str) (by with_unfolding_all rfl)) (ps_one (ps_return (pd_tup (pd_cons (pd_str) (pd_cons (pd_var 3) (pd_cons (pd_int) (pd_nil))))))) (ps_nil))
    (ps_cons (ps_iff (pq_cmp (od_inA (un65 hr)) (pd_var 1) (pd_str) (by with_unfolding_all rfl)) (ps_one (ps_return (pd_tup (pd_cons (pd_str) (pd_cons (pd_var 3) (pd_cons (pd_int) (pd_nil))))))) (ps_nil))
    (ps_one (ps_return (pd_non))))))))) (ps_nil))
    (ps_cons (ps_iff (pq_cmp (od_eqD hr.units) (pd_var 2) (pd_str) (nomark _)) (ps_one (ps_return (pd_if (pq_cmp (od_inA (un65 hr)) (pd_var 1) (pd_str) (by with_unfolding_all rfl)) (pd_tup (pd_cons (pd_str) (pd_cons (pd_var 3) (pd_cons (pd_int) (pd_nil))))) (pd_non)))) (ps_nil))
    (ps_cons (ps_iff (PW.pt (pq_and (pq_cmp (od_eqD hr.units) (pd_var 2) (pd_str) (nomark _)) (pq_and (pq_cmp od_ltI (pd_var 4) (pd_int) (nomark _)) (pq_and1 (pq_cmp (od_inA (un65 hr)) (pd_var 1) (pd_str) (by with_unfolding_all rfl)))))) (ps_one (ps_return (pd_tup (pd_cons (pd_str) (pd_cons (pd_var 3) (pd_cons (pd_bin od_add (pd_var 4) (pd_int)) (pd_nil))))))) (ps_nil))
    (ps_cons (ps_iff (PW.pt (pq_and (pq_cmp (od_eqD hr.units) (pd_var 2) (pd_str) (nomark _)) (pq_and (pq_cmp od_ltI (pd_var 4) (pd_int) (nomark _)) (pq_and1 (pq_cmp (od_inA (un65 hr)) (pd_var 1) (pd_str) (by with_unfolding_all rfl)))))) (ps_one (ps_return (pd_tup (pd_cons (pd_str) (pd_cons (pd_var 3) (pd_cons (pd_bin od_add (pd_var 4) (pd_int)) (pd_nil))))))) (ps_nil))
    (ps_cons (ps_iff (PW.pt (pq_and (pq_cmp (od_eqD hr.units) (pd_var 1) (pd_str) (nomark _)) (pq_and1 (pq_cmp od_gtI (pd_var 3) (pd_int) (nomark _))))) (ps_one (ps_return (pd_tup (pd_cons (pd_str) (pd_cons (pd_var 3) (pd_cons (pd_int) (pd_nil))))))) (ps_nil))
    (ps_cons (ps_iff (PW.pt (pq_and (pq_cmp (od_eqD hr.units) (pd_var 1) (pd_str) (nomark _)) (pq_and1 (pq_cmp od_gtI (pd_var 3) (pd_int) (nomark _))))) (ps_one (ps_return (pd_tup (pd_cons (pd_str) (pd_cons (pd_bin od_subI (pd_var 3) (pd_int)) (pd_cons (pd_int) (pd_nil))))))) (ps_nil))
    (ps_one (ps_return (pd_non)))))))))))
theorem body__law_due (B : Bi mg) (C : Co K mg) (o__law_step : FnD P w K mg base "_law_step" 1 2 (m__law_step)) : Body P w K mg base 1 ["text", "state", "at"] "_law_due" s__law_due b__law_due := fun f cdv A outer s H E hr =>
    ps_cons (ps_assign (pd_own (pd_tup (pd_cons (pd_str) (pd_cons (pd_int) (pd_cons (pd_int) (pd_nil)))))) (pgd_name 1 sc__law_due.nd))
    (ps_cons (ps_loop (passes_of rfl) rfl (pid_range1 B.b_range (pd_cons (pd_callB cd_len (by rfl) B.b_len bo_len (pd_cons (pd_var 0) (pd_nil))) (pd_nil))) (pgd_name 2 sc__law_due.nd) (ps_cons (ps_assign (pd_own (pd_call o__law_step (takes_of rfl rfl rfl rfl) hr (pd_cons (pd_var 1) (pd_cons (pd_ix xd_ix (pd_var 0) (pd_var 2) (fun _ _ => rfl)) (pd_nil))))) (pgd_name 1 sc__law_due.nd))
    (ps_one (ps_iff (pq_cmp od_isN (pd_var 1) (pd_non) (nomark _)) (ps_one (ps_return (pd_var 2))) (ps_nil)))))
    (ps_cons (ps_iff (PW.pt (pq_and (pq_cmp (od_eqD hr.units) (pd_ix xd_ix (pd_var 1) (pd_int) (fun _ _ => rfl)) (pd_int) (nomark _)) (pq_and1 (pq_cmp (od_inA (un65 hr)) (pd_ix xd_ix (pd_var 1) (pd_int) (fun _ _ => rfl)) (pd_tup (pd_cons (pd_str) (pd_cons (pd_str) (pd_cons (pd_str) (pd_cons (pd_str) (pd_nil)))))) (by with_unfolding_all rfl))))) (ps_one (ps_return (pd_non))) (ps_nil))
    (ps_one (ps_return (pd_callB cd_len (by rfl) B.b_len bo_len (pd_cons (pd_var 0) (pd_nil)))))))
theorem body__law_read_as_due (B : Bi mg) (C : Co K mg) (o__law_write : FnD P w K mg base "_law_write" 111 1 (m__law_write 110)) (o_read_value : FnD P w K mg base "read_value" 4 1 (m_read_value)) (o__law_same : FnD P w K mg base "_law_same" 111 2 (m__law_same 110)) (o__law_due : FnD P w K mg base "_law_due" 2 1 (m__law_due)) : Body P w K mg base 111 ["text", "due", "value", "e", "at"] "_law_read_as_due" s__law_read_as_due b__law_read_as_due := fun f cdv A outer s H E hr =>
    ps_cons (ps_assign (pd_own (pd_call o__law_due (takes_of rfl rfl rfl rfl) hr (pd_cons (pd_var 0) (pd_nil)))) (pgd_name 1 sc__law_read_as_due.nd))
    (ps_cons (ps_tryD C.ex rfl rfl sc__law_read_as_due.nd (takes_of rfl rfl rfl rfl) (fun W_0 pn_0 xe_0 tk_0 hp_0 => ps_one (ps_assign (pd_own (pd_call o_read_value tk_0 hr (pd_cons (pd_var 0) (pd_nil)))) (pgd_name 2 sc__law_read_as_due.nd))) (.one (C.n_BadName (by rfl)) (fun a_ oe_ c_ d_ x_ pn_ hm_ hz_ hf_ => ps_one (ps_return (pd_bl))) (.as (i := 3) (C.n_BadText (by rfl)) rfl rfl (fun a_ oe_ c_ d_ x_ pn_ hm_ hz_ hf_ => ps_cons (ps_assign (pd_own (pd_xf C.xf hm_ hz_ hf_ (pd_var 3))) (pgd_name 4 sc__law_read_as_due.nd))
    (ps_one (ps_return (pd_and (pd_cmp od_notN (pd_var 1) (pd_non) (nomark _)) (pd_and (pd_callB cd_isi (by rfl) B.b_isinstance bo_isinstance (pd_cons (pd_var 4) (pd_cons (pd_ty (by rfl) B.b_int bo_int) (pd_nil)))) (pd_and (pd_not (pd_callB cd_isi (by rfl) B.b_isinstance bo_isinstance (pd_cons (pd_var 4) (pd_cons (pd_ty (by rfl) B.b_bool bo_bool) (pd_nil))))) (pd_one (pd_cmp (od_eqD hr.units) (pd_var 4) (pd_var 1) (nomark _))))))))) (HdsAt.nil))))
    (ps_one (ps_return (pd_and (pd_cmp od_isN (pd_var 1) (pd_non) (nomark _)) (pd_and (pd_cmp (od_eqD hr.units) (pd_call o__law_write (takes_of rfl rfl rfl rfl) hr (pd_cons (pd_var 2) (pd_nil))) (pd_var 0) (nomark _)) (pd_one (pd_call o__law_same (takes_of rfl rfl rfl rfl) hr (pd_cons (pd_call o_read_value (takes_of rfl rfl rfl rfl) hr (pd_cons (pd_call o__law_write (takes_of rfl rfl rfl rfl) hr (pd_cons (pd_var 2) (pd_nil))) (pd_nil))) (pd_cons (pd_var 2) (pd_nil))))))))))
theorem body__law_cell (B : Bi mg) (C : Co K mg) : Body P w K mg base 0 ["script", "k"] "_law_cell" s__law_cell b__law_cell := fun f cdv A outer s H E hr =>
    ps_cons (ps_iff (pq_cmp od_ltI (pd_var 1) (pd_callB cd_len (by rfl) B.b_len bo_len (pd_cons (pd_var 0) (pd_nil))) (nomark _)) (ps_one (ps_return (pd_ix xd_ix (pd_var 0) (pd_var 1) (fun _ _ => rfl)))) (ps_nil))
    (ps_one (ps_return (pd_int)))
theorem body__law_spoilt (B : Bi mg) (C : Co K mg) : Body P w K mg base 0 ["text", "cell", "signs", "way", "place", "sign"] "_law_spoilt" s__law_spoilt b__law_spoilt := fun f cdv A outer s H E hr =>
    ps_cons (ps_assign (pd_own (pd_str)) (pgd_name 2 sc__law_spoilt.nd))
    (ps_cons (ps_assign (pd_own (pd_bin od_modI (pd_callTy cd_intA (by rfl) B.b_int bo_int (pd_cons (pd_var 1) (pd_nil))) (pd_int))) (pgd_name 3 sc__law_spoilt.nd))
    (ps_cons (ps_assign (pd_own (pd_bin od_modI (pd_bin od_divI (pd_callTy cd_intA (by rfl) B.b_int bo_int (pd_cons (pd_var 1) (pd_nil))) (pd_int)) (pd_bin od_add (pd_callB cd_len (by rfl) B.b_len bo_len (pd_cons (pd_var 0) (pd_nil))) (pd_int)))) (pgd_name 4 sc__law_spoilt.nd))
    (ps_cons (ps_assign (pd_own (pd_ix xd_ix (pd_var 2) (pd_bin od_modI (pd_bin od_divI (pd_callTy cd_intA (by rfl) B.b_int bo_int (pd_cons (pd_var 1) (pd_nil))) (pd_int)) (pd_int)) (fun _ _ => rfl))) (pgd_name 5 sc__law_spoilt.nd))
    (ps_cons (ps_iff (pq_cmp (od_eqD hr.units) (pd_var 3) (pd_int) (nomark _)) (ps_one (ps_return (pd_bin od_add (pd_bin od_add (pd_slice sd_sl (pd_var 0) (pd_onone) (pd_osome (pd_var 4))) (pd_var 5)) (pd_slice sd_sl (pd_var 0) (pd_osome (pd_var 4)) (pd_onone))))) (ps_nil))
    (ps_cons (ps_iff (pq_cmp (od_eqD hr.units) (pd_var 3) (pd_int) (nomark _)) (ps_one (ps_return (pd_bin od_add (pd_slice sd_sl (pd_var 0) (pd_onone) (pd_osome (pd_var 4))) (pd_slice sd_sl (pd_var 0) (pd_osome (pd_bin od_add (pd_var 4) (pd_int))) (pd_onone))))) (ps_nil))
    (ps_cons (ps_iff (pq_cmp (od_eqD hr.units) (pd_var 3) (pd_int) (nomark _)) (ps_one (ps_return (pd_bin od_add (pd_bin od_add (pd_slice sd_sl (pd_var 0) (pd_onone) (pd_osome (pd_var 4))) (pd_var 5)) (pd_slice sd_sl (pd_var 0) (pd_osome (pd_bin od_add (pd_var 4) (pd_int))) (pd_onone))))) (ps_nil))
    (ps_cons (ps_iff (pq_cmp (od_eqD hr.units) (pd_var 3) (pd_int) (nomark _)) (ps_one (ps_return (pd_slice sd_sl (pd_var 0) (pd_onone) (pd_osome (pd_var 4))))) (ps_nil))
    (ps_cons (ps_iff (pq_cmp (od_eqD hr.units) (pd_var 3) (pd_int) (nomark _)) (ps_one (ps_return (pd_bin od_add (pd_slice sd_sl (pd_var 0) (pd_onone) (pd_osome (pd_bin od_add (pd_var 4) (pd_int)))) (pd_slice sd_sl (pd_var 0) (pd_osome (pd_var 4)) (pd_onone))))) (ps_nil))
    (ps_one (ps_return (pd_bin od_add (pd_var 0) (pd_var 5))))))))))))
theorem body_value_text {m_rec : Mir} {j k : Nat} (B : Bi mg) (C : Co K mg) (o_value_text : FnD P w K mg base "value_text" j 1 m_rec) (hk : j ≤ k) (h0 : 0 ≤ k) : Body P w K mg base k ["value", "part"] "value_text" s_value_text (b_value_text m_rec) := fun f cdv A outer s H E hr =>
    ps_cons (ps_iff (pq_tru (pd_callB cd_isi (by rfl) B.b_isinstance bo_isinstance (pd_cons (pd_var 0) (pd_cons (pd_ty (by rfl) B.b_tuple bo_tuple) (pd_nil))))) (ps_one (ps_return (pd_bin od_add (pd_bin od_add (pd_str) (pd_ms PySem.F.slot_str_join PySem.F.type_str_join mt_joinD (pd_str) (pd_cons (pd_lc (own := [("part", 1)]) rfl sc_value_text.nd (pid_seq (pd_var 0)) (blkOk_by (N := ["value", "part"]) (sc := defScope s_value_text) (by decide +kernel)) (fun _ _ _ _ _ => pgd_name 1 sc_value_text.nd) (by decide) (fun _ _ _ _ _ => pts_none) (fun _ _ _ _ _ => pd_call (hk := hk) o_value_text takes0 hr (pd_cons (pd_var 1) (pd_nil)))) (pd_nil)))) (pd_str)))) (ps_nil))
    (ps_one (ps_return (pd_callTy cd_str (by rfl) B.b_str bo_str (pd_cons (pd_var 0) (pd_nil)))))
theorem body__law_draws (B : Bi mg) (C : Co K mg) : Body P w K mg base 0 ["cell", "many", "draws", "rest", "k", "state", "other"] "_law_draws" s__law_draws b__law_draws := fun f cdv A outer s H E hr =>
    ps_cons (ps_assign (pd_own (pd_lst (pd_nil))) (pgd_name 2 sc__law_draws.nd))
    (ps_cons (ps_assign (pd_own (pd_callB cd_abs (by rfl) B.b_abs bo_abs (pd_cons (pd_var 0) (pd_nil)))) (pgd_name 3 sc__law_draws.nd))
    (ps_cons (ps_iff (pq_cmp od_geI (pd_var 3) (pd_bin od_powI (pd_int) (pd_int)) (nomark _)) (ps_cons (ps_loop (passes_of rfl) rfl (pid_range1 B.b_range (pd_cons (pd_var 1) (pd_nil))) (pgd_name 4 sc__law_draws.nd) (ps_cons (ps_drop (pd_mu PySem.F.slot_list_append PySem.F.type_list_append mu_append (pd_var 2) (pd_cons (pd_bin od_modI (pd_var 3) (pd_int)) (pd_nil))))
    (ps_one (ps_assign (pd_own (pd_bin od_divI (pd_var 3) (pd_int))) (pgd_name 3 sc__law_draws.nd)))))
    (ps_one (ps_return (pd_var 2)))) (ps_nil))
    (ps_cons (ps_assign (pd_own (pd_bin od_add (pd_var 3) (pd_int))) (pgd_name 5 sc__law_draws.nd))
    (ps_cons (ps_loop (passes_of rfl) rfl (pid_range1 B.b_range (pd_cons (pd_var 1) (pd_nil))) (pgd_name 4 sc__law_draws.nd) (ps_cons (ps_assign (pd_own (pd_bin od_modI (pd_callTy cd_intA (by rfl) B.b_int bo_int (pd_cons (pd_bin od_add (pd_bin od_add (pd_bin od_mulA (pd_var 5) (pd_int)) (pd_bin od_mulA (pd_int) (pd_var 4))) (pd_int)) (pd_nil))) (pd_int))) (pgd_name 5 sc__law_draws.nd))
    (ps_cons (ps_assign (pd_own (pd_bin od_modI (pd_callTy cd_intA (by rfl) B.b_int bo_int (pd_cons (pd_bin od_add (pd_bin od_mulA (pd_var 5) (pd_int)) (pd_var 4)) (pd_nil))) (pd_int))) (pgd_name 6 sc__law_draws.nd))
    (ps_one (ps_drop (pd_mu PySem.F.slot_list_append PySem.F.type_list_append mu_append (pd_var 2) (pd_cons (pd_bin od_modI (pd_bin od_divI (pd_var 6) (pd_int)) (pd_int)) (pd_nil))))))))
    (ps_one (ps_return (pd_var 2)))))))
theorem body__law_word (B : Bi mg) (C : Co K mg) (o__law_draws : FnD P w K mg base "_law_draws" 1 2 (m__law_draws)) : Body P w K mg base 1 ["cell", "letters", "draws", "k"] "_law_word" s__law_word b__law_word := fun f cdv A outer s H E hr =>
    ps_cons (ps_assign (pd_own (pd_str)) (pgd_name 1 sc__law_word.nd))
    (ps_cons (ps_assign (pd_own (pd_call o__law_draws (takes_of rfl rfl rfl rfl) hr (pd_cons (pd_var 0) (pd_cons (pd_int) (pd_nil))))) (pgd_name 2 sc__law_word.nd))
    (ps_one (ps_return (pd_ms PySem.F.slot_str_join PySem.F.type_str_join mt_joinD (pd_str) (pd_cons (pd_lc (own := [("k", 3)]) rfl sc__law_word.nd (pid_range1 B.b_range (pd_cons (pd_bin od_add (pd_int) (pd_bin od_modI (pd_ix xd_ix (pd_var 2) (pd_int) (fun _ _ => rfl)) (pd_int))) (pd_nil))) (blkOk_by (N := ["cell", "letters", "draws", "k"]) (sc := defScope s__law_word) (by decide +kernel)) (fun _ _ _ _ _ => pgd_name 3 sc__law_word.nd) (by decide) (fun _ _ _ _ _ => pts_none) (fun _ _ _ _ _ => pd_ix xd_ix (pd_var 1) (pd_bin od_modI (pd_bin od_add (pd_ix xd_ix (pd_var 2) (pd_bin od_add (pd_var 3) (pd_int)) (fun _ _ => rfl)) (pd_var 3)) (pd_int)) (fun _ _ => rfl))) (pd_nil))))))
theorem body__law_value (B : Bi mg) (C : Co K mg) (o__law_cell : FnD P w K mg base "_law_cell" 1 2 (m__law_cell)) (o__law_word : FnD P w K mg base "_law_word" 2 1 (m__law_word)) : Body P w K mg base 2 ["script", "stack", "large", "cell", "kind", "size", "done", "value", "first", "k"] "_law_value" s__law_value b__law_value := fun f cdv A outer s H E hr =>
    ps_cons (ps_assign (pd_own (pd_lst (pd_cons (pd_own (pd_lst (pd_nil))) (pd_nil)))) (pgd_name 1 sc__law_value.nd))
    (ps_cons (ps_assign (pd_own (pd_bin od_mulA (pd_bin od_mulA (pd_bin od_mulA (pd_bin od_powI (pd_int) (pd_int)) (pd_bin od_powI (pd_int) (pd_int))) (pd_bin od_powI (pd_int) (pd_int))) (pd_bin od_powI (pd_int) (pd_int)))) (pgd_name 2 sc__law_value.nd))
    (ps_cons (ps_loop (passes_of rfl) rfl (pid_seq (pd_slice sd_sl (pd_var 0) (pd_osome (pd_int)) (pd_osome (pd_int)))) (pgd_name 3 sc__law_value.nd) (ps_cons (ps_assign (pd_own (pd_bin od_modI (pd_callTy cd_intA (by rfl) B.b_int bo_int (pd_cons (pd_var 3) (pd_nil))) (pd_int))) (pgd_name 4 sc__law_value.nd))
    (ps_cons (ps_assign (pd_own (pd_bin od_divI (pd_callTy cd_intA (by rfl) B.b_int bo_int (pd_cons (pd_var 3) (pd_nil))) (pd_int))) (pgd_name 5 sc__law_value.nd))
    (ps_one (ps_iff (pq_cmp (od_eqD hr.units) (pd_var 4) (pd_int) (nomark _)) (ps_one (ps_drop (pd_mu PySem.F.slot_list_append PySem.F.type_list_append mu_append (pd_ix xd_ix (pd_var 1) (pd_un ud_neg (pd_int)) (fun _ _ => rfl)) (pd_cons (pd_bin od_modI (pd_callTy cd_intA (by rfl) B.b_int bo_int (pd_cons (pd_var 5) (pd_nil))) (pd_var 2)) (pd_nil))))) (ps_one (ps_iff (pq_cmp (od_eqD hr.units) (pd_var 4) (pd_int) (nomark _)) (ps_one (ps_drop (pd_mu PySem.F.slot_list_append PySem.F.type_list_append mu_append (pd_ix xd_ix (pd_var 1) (pd_un ud_neg (pd_int)) (fun _ _ => rfl)) (pd_cons (pd_bin od_subI (pd_int) (pd_bin od_modI (pd_callTy cd_intA (by rfl) B.b_int bo_int (pd_cons (pd_var 5) (pd_nil))) (pd_var 2))) (pd_nil))))) (ps_one (ps_iff (pq_cmp (od_eqD hr.units) (pd_var 4) (pd_int) (nomark _)) (ps_one (ps_drop (pd_mu PySem.F.slot_list_append PySem.F.type_list_append mu_append (pd_ix xd_ix (pd_var 1) (pd_un ud_neg (pd_int)) (fun _ _ => rfl)) (pd_cons (pd_bin od_modI (pd_callTy cd_intA (by rfl) B.b_int bo_int (pd_cons (pd_var 5) (pd_nil))) (pd_int)) (pd_nil))))) (ps_one (ps_iff (pq_cmp (od_eqD hr.units) (pd_var 4) (pd_int) (nomark _)) (ps_one (ps_drop (pd_mu PySem.F.slot_list_append PySem.F.type_list_append mu_append (pd_ix xd_ix (pd_var 1) (pd_un ud_neg (pd_int)) (fun _ _ => rfl)) (pd_cons (pd_call o__law_word (takes_of rfl rfl rfl rfl) hr (pd_cons (pd_var 5) (pd_nil))) (pd_nil))))) (ps_one (ps_iff (PW.pt (pq_and (pq_cmp (od_eqD hr.units) (pd_var 4) (pd_int) (nomark _)) (pq_and1 (pq_cmp od_ltI (pd_callB cd_len (by rfl) B.b_len bo_len (pd_cons (pd_var 1) (pd_nil))) (pd_int) (nomark _))))) (ps_one (ps_drop (pd_mu PySem.F.slot_list_append PySem.F.type_list_append mu_append (pd_var 1) (pd_cons (pd_own (pd_lst (pd_nil))) (pd_nil))))) (ps_one (ps_iff (PW.pt (pq_and (pq_cmp (od_eqD hr.units) (pd_var 4) (pd_int) (nomark _)) (pq_and1 (pq_cmp od_gtI (pd_callB cd_len (by rfl) B.b_len bo_len (pd_cons (pd_var 1) (pd_nil))) (pd_int) (nomark _))))) (ps_cons (ps_assign (pd_own (pd_callTy cd_tuple (by rfl) B.b_tuple bo_tuple (pd_cons (pd_mu0 PySem.F.slot_list_pop PySem.F.type_list_pop mu_pop (pd_var 1)) (pd_nil)))) (pgd_name 6 sc__law_value.nd))
    (ps_one (ps_drop (pd_mu PySem.F.slot_list_append PySem.F.type_list_append mu_append (pd_ix xd_ix (pd_var 1) (pd_un ud_neg (pd_int)) (fun _ _ => rfl)) (pd_cons (pd_var 6) (pd_nil)))))) (ps_one (ps_drop (pd_mu PySem.F.slot_list_append PySem.F.type_list_append mu_append (pd_ix xd_ix (pd_var 1) (pd_un ud_neg (pd_int)) (fun _ _ => rfl)) (pd_cons (pd_tup (pd_nil)) (pd_nil))))))))))))))))))))
    (ps_cons (ps_whileD fuel (passes_of rfl) (pq_cmp od_gtI (pd_callB cd_len (by rfl) B.b_len bo_len (pd_cons (pd_var 1) (pd_nil))) (pd_int) (nomark _)) (ps_cons (ps_assign (pd_own (pd_callTy cd_tuple (by rfl) B.b_tuple bo_tuple (pd_cons (pd_mu0 PySem.F.slot_list_pop PySem.F.type_list_pop mu_pop (pd_var 1)) (pd_nil)))) (pgd_name 6 sc__law_value.nd))
    (ps_one (ps_drop (pd_mu PySem.F.slot_list_append PySem.F.type_list_append mu_append (pd_ix xd_ix (pd_var 1) (pd_un ud_neg (pd_int)) (fun _ _ => rfl)) (pd_cons (pd_var 6) (pd_nil)))))) (ps_nil))
    (ps_cons (ps_assign (pd_own (pd_callTy cd_tuple (by rfl) B.b_tuple bo_tuple (pd_cons (pd_ix xd_ix (pd_var 1) (pd_int) (fun _ _ => rfl)) (pd_nil)))) (pgd_name 7 sc__law_value.nd))
    (ps_cons (ps_assign (pd_own (pd_call o__law_cell (takes_of rfl rfl rfl rfl) hr (pd_cons (pd_var 0) (pd_cons (pd_int) (pd_nil))))) (pgd_name 8 sc__law_value.nd))
    (ps_cons (ps_iff (PW.pt (pq_and (pq_cmp od_gtI (pd_callB cd_len (by rfl) B.b_len bo_len (pd_cons (pd_var 7) (pd_nil))) (pd_int) (nomark _)) (pq_and1 (pq_cmp (od_eqD hr.units) (pd_bin od_modI (pd_callTy cd_intA (by rfl) B.b_int bo_int (pd_cons (pd_var 8) (pd_nil))) (pd_int)) (pd_int) (nomark _))))) (ps_one (ps_assign (pd_own (pd_ix xd_ix (pd_var 7) (pd_bin od_modI (pd_bin od_divI (pd_callTy cd_intA (by rfl) B.b_int bo_int (pd_cons (pd_var 8) (pd_nil))) (pd_int)) (pd_callB cd_len (by rfl) B.b_len bo_len (pd_cons (pd_var 7) (pd_nil)))) (fun _ _ => rfl))) (pgd_name 7 sc__law_value.nd))) (ps_nil))
    (ps_cons (ps_iff (pq_cmp (od_eqD hr.units) (pd_bin od_modI (pd_bin od_divI (pd_callTy cd_intA (by rfl) B.b_int bo_int (pd_cons (pd_var 8) (pd_nil))) (pd_int)) (pd_int)) (pd_int) (nomark _)) (ps_one (ps_loop (passes_of rfl) rfl (pid_range1 B.b_range (pd_cons (pd_bin od_modI (pd_bin od_divI (pd_callTy cd_intA (by rfl) B.b_int bo_int (pd_cons (pd_var 8) (pd_nil))) (pd_int)) (pd_int)) (pd_nil))) (pgd_name 9 sc__law_value.nd) (ps_one (ps_assign (pd_own (pd_tup (pd_cons (pd_var 7) (pd_nil)))) (pgd_name 7 sc__law_value.nd))))) (ps_nil))
    (ps_one (ps_return (pd_var 7))))))))))
theorem body_law (B : Bi mg) (C : Co K mg) (o_read_value : FnD P w K mg base "read_value" 4 1 (m_read_value)) (o__law_read_as_due : FnD P w K mg base "_law_read_as_due" 112 1 (m__law_read_as_due)) (o__law_cell : FnD P w K mg base "_law_cell" 1 2 (m__law_cell)) (o__law_spoilt : FnD P w K mg base "_law_spoilt" 1 2 (m__law_spoilt)) (o__law_same : FnD P w K mg base "_law_same" 111 2 (m__law_same 110)) (o__law_write : FnD P w K mg base "_law_write" 111 1 (m__law_write 110)) (o_value_text : FnD P w K mg base "value_text" 111 1 (m_value_text 110)) (o__law_value : FnD P w K mg base "_law_value" 3 1 (m__law_value)) : Body P w K mg base 112 ["script", "value", "text", "fixed", "texts", "k", "spoilt", "e"] "law" s_law b_law := fun f cdv A outer s H E hr =>
    ps_cons (ps_assign (pd_own (pd_call o__law_value (takes_of rfl rfl rfl rfl) hr (pd_cons (pd_var 0) (pd_nil)))) (pgd_name 1 sc_law.nd))
    (ps_cons (ps_assign (pd_own (pd_call o_value_text (takes_of rfl rfl rfl rfl) hr (pd_cons (pd_var 1) (pd_nil)))) (pgd_name 2 sc_law.nd))
    (ps_cons (ps_iff (PW.pt (pq_or (pq_not (pq_tru (pd_callB cd_isi (by rfl) B.b_isinstance bo_isinstance (pd_cons (pd_var 2) (pd_cons (pd_ty (by rfl) B.b_str bo_str) (pd_nil)))))) (pq_or1 (pq_cmp (od_neD hr.units) (pd_var 2) (pd_call o__law_write (takes_of rfl rfl rfl rfl) hr (pd_cons (pd_var 1) (pd_nil))) (nomark _))))) (ps_one (ps_return (pd_bl))) (ps_nil))
    (ps_cons (ps_iff (pq_not (pq_tru (pd_call o__law_same (takes_of rfl rfl rfl rfl) hr (pd_cons (pd_call o_read_value (takes_of rfl rfl rfl rfl) hr (pd_cons (pd_var 2) (pd_nil))) (pd_cons (pd_var 1) (pd_nil)))))) (ps_one (ps_return (pd_bl))) (ps_nil))
    (ps_cons (ps_assign (pd_own (pd_lst (pd_cons (pd_str) (pd_cons (pd_str) (pd_cons (pd_str) (pd_cons (pd_str) (pd_cons (pd_str) (pd_cons (pd_str) (pd_cons (pd_str) (pd_cons (pd_str) (pd_cons (pd_str) (pd_cons (pd_str) (pd_cons (pd_str) (pd_cons (pd_str) (pd_cons (pd_str) (pd_cons (pd_str) (pd_cons (pd_str) (pd_nil)))))))))))))))))) (pgd_name 3 sc_law.nd))
    (ps_cons (ps_assign (pd_own (pd_lst (pd_cons (pd_ix xd_ix (pd_var 3) (pd_bin od_modI (pd_callTy cd_intA (by rfl) B.b_int bo_int (pd_cons (pd_call o__law_cell (takes_of rfl rfl rfl rfl) hr (pd_cons (pd_var 0) (pd_cons (pd_int) (pd_nil)))) (pd_nil))) (pd_int)) (fun _ _ => rfl)) (pd_cons (pd_bin od_add (pd_bin od_mulA (pd_str) (pd_int)) (pd_bin od_mulA (pd_str) (pd_int))) (pd_cons (pd_bin od_add (pd_bin od_mulA (pd_str) (pd_int)) (pd_bin od_mulA (pd_str) (pd_int))) (pd_nil)))))) (pgd_name 4 sc_law.nd))
    (ps_cons (ps_loop (passes_of rfl) rfl (pid_range1 B.b_range (pd_cons (pd_int) (pd_nil))) (pgd_name 5 sc_law.nd) (ps_one (ps_drop (pd_mu PySem.F.slot_list_append PySem.F.type_list_append mu_append (pd_var 4) (pd_cons (pd_call o__law_spoilt (takes_of rfl rfl rfl rfl) hr (pd_cons (pd_var 2) (pd_cons (pd_bin od_add (pd_bin od_add (pd_bin od_divI (pd_callB cd_abs (by rfl) B.b_abs bo_abs (pd_cons (pd_call o__law_cell (takes_of rfl rfl rfl rfl) hr (pd_cons (pd_var 0) (pd_cons (pd_bin od_subI (pd_int) (pd_var 5)) (pd_nil)))) (pd_nil))) (pd_int)) (pd_bin od_mulA (pd_int) (pd_var 5))) (pd_callB cd_len (by rfl) B.b_len bo_len (pd_cons (pd_var 0) (pd_nil)))) (pd_nil)))) (pd_nil))))))
    (ps_cons (ps_loop (passes_of rfl) rfl (pid_range1 B.b_range (pd_cons (pd_int) (pd_nil))) (pgd_name 5 sc_law.nd) (ps_one (ps_drop (pd_mu PySem.F.slot_list_append PySem.F.type_list_append mu_append (pd_var 4) (pd_cons (pd_call o__law_spoilt (takes_of rfl rfl rfl rfl) hr (pd_cons (pd_ix xd_ix (pd_var 4) (pd_bin od_add (pd_int) (pd_var 5)) (fun _ _ => rfl)) (pd_cons (pd_bin od_divI (pd_callB cd_abs (by rfl) B.b_abs bo_abs (pd_cons (pd_call o__law_cell (takes_of rfl rfl rfl rfl) hr (pd_cons (pd_var 0) (pd_cons (pd_var 5) (pd_nil)))) (pd_nil))) (pd_int)) (pd_nil)))) (pd_nil))))))
    (ps_cons (ps_loop (passes_of rfl) rfl (pid_seq (pd_var 4)) (pgd_name 6 sc_law.nd) (ps_one (ps_iff (pq_not (pq_tru (pd_call o__law_read_as_due (takes_of rfl rfl rfl rfl) hr (pd_cons (pd_var 6) (pd_nil))))) (ps_one (ps_return (pd_bl))) (ps_nil))))
    (ps_cons (ps_tryD C.ex rfl rfl sc_law.nd (takes_of rfl rfl rfl rfl) (fun W_0 pn_0 xe_0 tk_0 hp_0 => ps_one (ps_drop (pd_call o_read_value tk_0 hr (pd_cons (pd_bin od_mulA (pd_str) (pd_int)) (pd_nil))))) (.as (i := 7) (C.n_BookError (by rfl)) rfl rfl (fun a_ oe_ c_ d_ x_ pn_ hm_ hz_ hf_ => ps_one (ps_return (pd_and (pd_callB (cd_isE C.ki hm_ hz_ hf_) (by rfl) B.b_isinstance bo_isinstance (pd_cons (pd_var 7) (pd_cons (pd_ty (by rfl) B.b_ValueError bo_ValueError) (pd_nil)))) (pd_and (pd_callB (cd_isE C.ki hm_ hz_ hf_) (by rfl) B.b_isinstance bo_isinstance (pd_cons (pd_var 7) (pd_cons (pd_cls (C.k_BadText)) (pd_nil)))) (pd_and (pd_not (pd_callB (cd_isE C.ki hm_ hz_ hf_) (by rfl) B.b_isinstance bo_isinstance (pd_cons (pd_var 7) (pd_cons (pd_cls (C.k_BadName)) (pd_nil))))) (pd_one (pd_cmp (od_eqD hr.units) (pd_xf C.xf hm_ hz_ hf_ (pd_var 7)) (pd_int) (nomark _)))))))) (HdsAt.nil)))
    (ps_one (ps_return (pd_bl))))))))))))
theorem ok_run_end {f_ : Addr} {fd : FuncData} (F : FnP K "run_end" s_run_end f_ fd) (hm : mg "run_end" = some (.ref f_)) (B : Bi mg) (C : Co K mg) : FnD P w K mg base "run_end" 1 4 m_run_end := fnD_mk F hm sc_run_end (body_run_end B C ) (FunD.bindsN F fun _ _ _ _ _ _ us hl => match us, hl with | [_, _, _, _], _ => rfl) rfl
theorem ok_read_plain {f_ : Addr} {fd : FuncData} (F : FnP K "read_plain" s_read_plain f_ fd) (hm : mg "read_plain" = some (.ref f_)) (B : Bi mg) (C : Co K mg) (o_run_end : FnD P w K mg base "run_end" 1 4 (m_run_end)) (r_BadText : ErrOk P w K mg base "BadText" 1 ["at"]) : FnD P w K mg base "read_plain" 3 2 m_read_plain := fnD_mk F hm sc_read_plain (body_read_plain B C o_run_end r_BadText) (FunD.bindsN F fun _ _ _ _ _ _ us hl => match us, hl with | [_, _], _ => rfl) rfl
theorem ok_read_value {f_ : Addr} {fd : FuncData} (F : FnP K "read_value" s_read_value f_ fd) (hm : mg "read_value" = some (.ref f_)) (B : Bi mg) (C : Co K mg) (o_read_plain : FnD P w K mg base "read_plain" 3 2 (m_read_plain)) (r_BadText : ErrOk P w K mg base "BadText" 1 ["at"]) : FnD P w K mg base "read_value" 4 1 m_read_value := fnD_mk F hm sc_read_value (body_read_value B C o_read_plain r_BadText) (FunD.bindsN F fun _ _ _ _ _ _ us hl => match us, hl with | [_], _ => rfl) rfl
theorem ok__law_write {f_ : Addr} {fd : FuncData} (F : FnP K "_law_write" s__law_write f_ fd) (hm : mg "_law_write" = some (.ref f_)) (B : Bi mg) (C : Co K mg) : ∀ d : Nat, FnD P w K mg base "_law_write" (0 + d + 1) 1 (m__law_write d)
  | 0 => fnD_none F hm sc__law_write (FunD.bindsN F fun _ _ _ _ _ _ us hl => match us, hl with | [_], _ => rfl) rfl
  | d + 1 => fnD_mk F hm sc__law_write (body__law_write B C  (ok__law_write F hm B C  d) (Nat.le_refl _) (by omega)) (FunD.bindsN F fun _ _ _ _ _ _ us hl => match us, hl with | [_], _ => rfl) rfl
theorem ok__law_same {f_ : Addr} {fd : FuncData} (F : FnP K "_law_same" s__law_same f_ fd) (hm : mg "_law_same" = some (.ref f_)) (B : Bi mg) (C : Co K mg) : ∀ d : Nat, FnD P w K mg base "_law_same" (0 + d + 1) 2 (m__law_same d)
  | 0 => fnD_none F hm sc__law_same (FunD.bindsN F fun _ _ _ _ _ _ us hl => match us, hl with | [_, _], _ => rfl) rfl
  | d + 1 => fnD_mk F hm sc__law_same (body__law_same B C  (ok__law_same F hm B C  d) (Nat.le_refl _) (by omega)) (FunD.bindsN F fun _ _ _ _ _ _ us hl => match us, hl with | [_, _], _ => rfl) rfl
theorem ok__law_step {f_ : Addr} {fd : FuncData} (F : FnP K "_law_step" s__law_step f_ fd) (hm : mg "_law_step" = some (.ref f_)) (B : Bi mg) (C : Co K mg) : FnD P w K mg base "_law_step" 1 2 m__law_step := fnD_mk F hm sc__law_step (body__law_step B C ) (FunD.bindsN F fun _ _ _ _ _ _ us hl => match us, hl with | [_, _], _ => rfl) rfl
theorem ok__law_due {f_ : Addr} {fd : FuncData} (F : FnP K "_law_due" s__law_due f_ fd) (hm : mg "_law_due" = some (.ref f_)) (B : Bi mg) (C : Co K mg) (o__law_step : FnD P w K mg base "_law_step" 1 2 (m__law_step)) : FnD P w K mg base "_law_due" 2 1 m__law_due := fnD_mk F hm sc__law_due (body__law_due B C o__law_step) (FunD.bindsN F fun _ _ _ _ _ _ us hl => match us, hl with | [_], _ => rfl) rfl
theorem ok__law_read_as_due {f_ : Addr} {fd : FuncData} (F : FnP K "_law_read_as_due" s__law_read_as_due f_ fd) (hm : mg "_law_read_as_due" = some (.ref f_)) (B : Bi mg) (C : Co K mg) (o__law_write : FnD P w K mg base "_law_write" 111 1 (m__law_write 110)) (o_read_value : FnD P w K mg base "read_value" 4 1 (m_read_value)) (o__law_same : FnD P w K mg base "_law_same" 111 2 (m__law_same 110)) (o__law_due : FnD P w K mg base "_law_due" 2 1 (m__law_due)) : FnD P w K mg base "_law_read_as_due" 112 1 m__law_read_as_due := fnD_mk F hm sc__law_read_as_due (body__law_read_as_due B C o__law_write o_read_value o__law_same o__law_due) (FunD.bindsN F fun _ _ _ _ _ _ us hl => match us, hl with | [_], _ => rfl) rfl
theorem ok__law_cell {f_ : Addr} {fd : FuncData} (F : FnP K "_law_cell" s__law_cell f_ fd) (hm : mg "_law_cell" = some (.ref f_)) (B : Bi mg) (C : Co K mg) : FnD P w K mg base "_law_cell" 1 2 m__law_cell := fnD_mk F hm sc__law_cell (body__law_cell B C ) (FunD.bindsN F fun _ _ _ _ _ _ us hl => match us, hl with | [_, _], _ => rfl) rfl
theorem ok__law_spoilt {f_ : Addr} {fd : FuncData} (F : FnP K "_law_spoilt" s__law_spoilt f_ fd) (hm : mg "_law_spoilt" = some (.ref f_)) (B : Bi mg) (C : Co K mg) : FnD P w K mg base "_law_spoilt" 1 2 m__law_spoilt := fnD_mk F hm sc__law_spoilt (body__law_spoilt B C ) (FunD.bindsN F fun _ _ _ _ _ _ us hl => match us, hl with | [_, _], _ => rfl) rfl
theorem ok_value_text {f_ : Addr} {fd : FuncData} (F : FnP K "value_text" s_value_text f_ fd) (hm : mg "value_text" = some (.ref f_)) (B : Bi mg) (C : Co K mg) : ∀ d : Nat, FnD P w K mg base "value_text" (0 + d + 1) 1 (m_value_text d)
  | 0 => fnD_none F hm sc_value_text (FunD.bindsN F fun _ _ _ _ _ _ us hl => match us, hl with | [_], _ => rfl) rfl
  | d + 1 => fnD_mk F hm sc_value_text (body_value_text B C  (ok_value_text F hm B C  d) (Nat.le_refl _) (by omega)) (FunD.bindsN F fun _ _ _ _ _ _ us hl => match us, hl with | [_], _ => rfl) rfl
theorem ok__law_draws {f_ : Addr} {fd : FuncData} (F : FnP K "_law_draws" s__law_draws f_ fd) (hm : mg "_law_draws" = some (.ref f_)) (B : Bi mg) (C : Co K mg) : FnD P w K mg base "_law_draws" 1 2 m__law_draws := fnD_mk F hm sc__law_draws (body__law_draws B C ) (FunD.bindsN F fun _ _ _ _ _ _ us hl => match us, hl with | [_, _], _ => rfl) rfl
theorem ok__law_word {f_ : Addr} {fd : FuncData} (F : FnP K "_law_word" s__law_word f_ fd) (hm : mg "_law_word" = some (.ref f_)) (B : Bi mg) (C : Co K mg) (o__law_draws : FnD P w K mg base "_law_draws" 1 2 (m__law_draws)) : FnD P w K mg base "_law_word" 2 1 m__law_word := fnD_mk F hm sc__law_word (body__law_word B C o__law_draws) (FunD.bindsN F fun _ _ _ _ _ _ us hl => match us, hl with | [_], _ => rfl) rfl
theorem ok__law_value {f_ : Addr} {fd : FuncData} (F : FnP K "_law_value" s__law_value f_ fd) (hm : mg "_law_value" = some (.ref f_)) (B : Bi mg) (C : Co K mg) (o__law_cell : FnD P w K mg base "_law_cell" 1 2 (m__law_cell)) (o__law_word : FnD P w K mg base "_law_word" 2 1 (m__law_word)) : FnD P w K mg base "_law_value" 3 1 m__law_value := fnD_mk F hm sc__law_value (body__law_value B C o__law_cell o__law_word) (FunD.bindsN F fun _ _ _ _ _ _ us hl => match us, hl with | [_], _ => rfl) rfl
theorem ok_law {f_ : Addr} {fd : FuncData} (F : FnP K "law" s_law f_ fd) (hm : mg "law" = some (.ref f_)) (B : Bi mg) (C : Co K mg) (o_read_value : FnD P w K mg base "read_value" 4 1 (m_read_value)) (o__law_read_as_due : FnD P w K mg base "_law_read_as_due" 112 1 (m__law_read_as_due)) (o__law_cell : FnD P w K mg base "_law_cell" 1 2 (m__law_cell)) (o__law_spoilt : FnD P w K mg base "_law_spoilt" 1 2 (m__law_spoilt)) (o__law_same : FnD P w K mg base "_law_same" 111 2 (m__law_same 110)) (o__law_write : FnD P w K mg base "_law_write" 111 1 (m__law_write 110)) (o_value_text : FnD P w K mg base "value_text" 111 1 (m_value_text 110)) (o__law_value : FnD P w K mg base "_law_value" 3 1 (m__law_value)) : FnD P w K mg base "law" 113 1 m_law := fnD_mk F hm sc_law (body_law B C o_read_value o__law_read_as_due o__law_cell o__law_spoilt o__law_same o__law_write o_value_text o__law_value) (FunD.bindsN F fun _ _ _ _ _ _ us hl => match us, hl with | [_], _ => rfl) rfl
end
def d_run_end : He.DefD := ⟨("run_end", none), "run_end", "run_end", defArgs s_run_end, defBody s_run_end, defScope s_run_end, [], []⟩
def d_read_plain : He.DefD := ⟨("read_plain", none), "read_plain", "read_plain", defArgs s_read_plain, defBody s_read_plain, defScope s_read_plain, [], []⟩
def d_read_value : He.DefD := ⟨("read_value", none), "read_value", "read_value", defArgs s_read_value, defBody s_read_value, defScope s_read_value, [], []⟩
def d__law_write : He.DefD := ⟨("_law_write", none), "_law_write", "_law_write", defArgs s__law_write, defBody s__law_write, defScope s__law_write, [], []⟩
def d__law_same : He.DefD := ⟨("_law_same", none), "_law_same", "_law_same", defArgs s__law_same, defBody s__law_same, defScope s__law_same, [], []⟩
def d__law_step : He.DefD := ⟨("_law_step", none), "_law_step", "_law_step", defArgs s__law_step, defBody s__law_step, defScope s__law_step, [], []⟩
def d__law_due : He.DefD := ⟨("_law_due", none), "_law_due", "_law_due", defArgs s__law_due, defBody s__law_due, defScope s__law_due, [], []⟩
def d__law_read_as_due : He.DefD := ⟨("_law_read_as_due", none), "_law_read_as_due", "_law_read_as_due", defArgs s__law_read_as_due, defBody s__law_read_as_due, defScope s__law_read_as_due, [], []⟩
def d__law_cell : He.DefD := ⟨("_law_cell", none), "_law_cell", "_law_cell", defArgs s__law_cell, defBody s__law_cell, defScope s__law_cell, [], []⟩
def d__law_spoilt : He.DefD := ⟨("_law_spoilt", none), "_law_spoilt", "_law_spoilt", defArgs s__law_spoilt, defBody s__law_spoilt, defScope s__law_spoilt, [], []⟩
def d_value_text : He.DefD := ⟨("value_text", none), "value_text", "value_text", defArgs s_value_text, defBody s_value_text, defScope s_value_text, [], []⟩
def d__law_draws : He.DefD := ⟨("_law_draws", none), "_law_draws", "_law_draws", defArgs s__law_draws, defBody s__law_draws, defScope s__law_draws, [], []⟩
def d__law_word : He.DefD := ⟨("_law_word", none), "_law_word", "_law_word", defArgs s__law_word, defBody s__law_word, defScope s__law_word, [], []⟩
def d__law_value : He.DefD := ⟨("_law_value", none), "_law_value", "_law_value", defArgs s__law_value, defBody s__law_value, defScope s__law_value, [], []⟩
def d_law : He.DefD := ⟨("law", none), "law", "law", defArgs s_law, defBody s_law, defScope s_law, [], []⟩
def fn : List He.DefD := [d_run_end, d_read_plain, d_read_value, d__law_write, d__law_same, d__law_step, d__law_due, d__law_read_as_due, d__law_cell, d__law_spoilt, d_value_text, d__law_draws, d__law_word, d__law_value, d_law]
def fa : List He.Fa := [.glo "run_end", .glo "read_plain", .glo "read_value", .glo "_law_write", .glo "_law_same", .glo "_law_step", .glo "_law_due", .glo "_law_read_as_due", .glo "_law_cell", .glo "_law_spoilt", .glo "value_text", .glo "_law_draws", .glo "_law_word", .glo "_law_value", .glo "law", .free "str", .free "tuple", .free "isinstance", .free "len", .free "min", .free "int", .free "range", .free "abs", .free "bool", .free "ValueError", .int "LONGEST_NUMBER" 200, .str "DIGITS" "0123456789", .str "LETTERS" "abcdefghijklmnopqrstuvwxyz", .int "LONGEST_WORD" 20, .int "DEEPEST" 100, .free "super"]
def e_BadName : ErrD := ⟨"BadName", "BadName.__init__", inner 2 0, ["name"]⟩
def e_BadText : ErrD := ⟨"BadText", "BadText.__init__", inner 3 0, ["at"]⟩
def er : List ErrD := [e_BadName, e_BadText]
def clL : List Str := ["BookError", "BadName", "BadText"]
abbrev R : PySem.W.OpenRow := PySem.W.OpenLaw.row PySem.Challenge.rw_liftedliars_k00_value_texts
def ex (K : PySem.W.Frag) : Bool := clL.all (gloB K) && (exB K exL && (xfBl K xfL && (kiB K kiL && (ki2B K ki2L && er.all (errB PySem.Challenge.pw_liftedliars_k00_value_texts.main.file K)))))
abbrev hk : PySem.W.Hook := hookE2 5 fa fn er ex
def ob (s : PySem.W.SharedT) : AlE := obsE2 5 fa fn er ex (HandSHeadRun.getT s)
theorem ob_eq (s : PySem.W.SharedT) : ob s = hk.obs s.abs := obsE2_eq (HandSHeadRun.getT_eq s)
def loose : List Str := ["BookError", "BadName", "BadText", "LETTERS", "DIGITS", "LONGEST_WORD", "LONGEST_NUMBER", "DEEPEST", "value_text", "run_end", "read_plain", "read_value", "_law_cell", "_law_draws", "_law_word", "_law_value", "_law_write", "_law_same", "_law_step", "_law_due", "_law_spoilt", "_law_read_as_due"]
theorem run (w : World) : HandSHeadRun.RunEq R (PySem.W.view R.prog [25]) hk ob 3000 loose w := by
  intro os
  kernel_rfl
section
variable {w : World} {K : PySem.W.Frag} {mg : Mg} {base : Heap}
theorem rr_BadText (E : ErrS PySem.Challenge.pw_liftedliars_k00_value_texts K mg e_BadText) : ErrOk PySem.Challenge.pw_liftedliars_k00_value_texts w K mg base "BadText" 1 ["at"] :=
  errOk1 (d := e_BadText) E rfl (NdefX.nscope_by (by decide +kernel)) rfl rfl rfl (fun _ _ _ _ _ _ _ us hl => match us, hl with | [_, _], _ => rfl) (by decide) (by decide) (by decide) (by decide)
end
theorem facts {w : World} {K : PySem.W.Frag} {h : Heap} {mg : Mg} {f : Addr} (X : K.In h) (G : h.Ns mainGlobals mg) (hfa : mg ("law" : Str) = some (.ref f)) (cc : SaysE2 fa fn er ex K) :
    ∃ fd : FuncData, (∀ (s : Shared) (v : Value), BindsTo s fd ⟨[v], []⟩ [("script", v)]) ∧ ∀ base : Heap, K.In base → base.Ns mainGlobals mg → FnOk PySem.Challenge.pw_liftedliars_k00_value_texts w K mg base (L2.CX PySem.Challenge.pw_liftedliars_k00_value_texts w) 113 f fd ["script"] (spD K mg 1 m_law) := by
  have c := cc.d
  obtain ⟨fd_run_end, F_run_end⟩ := c.def_ 0 (d := d_run_end) rfl
  have g_run_end := He.glo_ok X G (c.fact 0 (f := .glo "run_end") rfl)
  obtain ⟨fd_read_plain, F_read_plain⟩ := c.def_ 1 (d := d_read_plain) rfl
  have g_read_plain := He.glo_ok X G (c.fact 1 (f := .glo "read_plain") rfl)
  obtain ⟨fd_read_value, F_read_value⟩ := c.def_ 2 (d := d_read_value) rfl
  have g_read_value := He.glo_ok X G (c.fact 2 (f := .glo "read_value") rfl)
  obtain ⟨fd__law_write, F__law_write⟩ := c.def_ 3 (d := d__law_write) rfl
  have g__law_write := He.glo_ok X G (c.fact 3 (f := .glo "_law_write") rfl)
  obtain ⟨fd__law_same, F__law_same⟩ := c.def_ 4 (d := d__law_same) rfl
  have g__law_same := He.glo_ok X G (c.fact 4 (f := .glo "_law_same") rfl)
  obtain ⟨fd__law_step, F__law_step⟩ := c.def_ 5 (d := d__law_step) rfl
  have g__law_step := He.glo_ok X G (c.fact 5 (f := .glo "_law_step") rfl)
  obtain ⟨fd__law_due, F__law_due⟩ := c.def_ 6 (d := d__law_due) rfl
  have g__law_due := He.glo_ok X G (c.fact 6 (f := .glo "_law_due") rfl)
  obtain ⟨fd__law_read_as_due, F__law_read_as_due⟩ := c.def_ 7 (d := d__law_read_as_due) rfl
  have g__law_read_as_due := He.glo_ok X G (c.fact 7 (f := .glo "_law_read_as_due") rfl)
  obtain ⟨fd__law_cell, F__law_cell⟩ := c.def_ 8 (d := d__law_cell) rfl
  have g__law_cell := He.glo_ok X G (c.fact 8 (f := .glo "_law_cell") rfl)
  obtain ⟨fd__law_spoilt, F__law_spoilt⟩ := c.def_ 9 (d := d__law_spoilt) rfl
  have g__law_spoilt := He.glo_ok X G (c.fact 9 (f := .glo "_law_spoilt") rfl)
  obtain ⟨fd_value_text, F_value_text⟩ := c.def_ 10 (d := d_value_text) rfl
  have g_value_text := He.glo_ok X G (c.fact 10 (f := .glo "value_text") rfl)
  obtain ⟨fd__law_draws, F__law_draws⟩ := c.def_ 11 (d := d__law_draws) rfl
  have g__law_draws := He.glo_ok X G (c.fact 11 (f := .glo "_law_draws") rfl)
  obtain ⟨fd__law_word, F__law_word⟩ := c.def_ 12 (d := d__law_word) rfl
  have g__law_word := He.glo_ok X G (c.fact 12 (f := .glo "_law_word") rfl)
  obtain ⟨fd__law_value, F__law_value⟩ := c.def_ 13 (d := d__law_value) rfl
  have g__law_value := He.glo_ok X G (c.fact 13 (f := .glo "_law_value") rfl)
  obtain ⟨fd_law, F_law⟩ := c.def_ 14 (d := d_law) rfl
  have g_law := He.glo_ok X G (c.fact 14 (f := .glo "law") rfl)
  have B : Bi mg := ⟨He.free_ok X G (c.fact 15 (f := .free "str") rfl), He.free_ok X G (c.fact 16 (f := .free "tuple") rfl), He.free_ok X G (c.fact 17 (f := .free "isinstance") rfl), He.free_ok X G (c.fact 18 (f := .free "len") rfl), He.free_ok X G (c.fact 19 (f := .free "min") rfl), He.free_ok X G (c.fact 20 (f := .free "int") rfl), He.free_ok X G (c.fact 21 (f := .free "range") rfl), He.free_ok X G (c.fact 22 (f := .free "abs") rfl), He.free_ok X G (c.fact 23 (f := .free "bool") rfl), He.free_ok X G (c.fact 24 (f := .free "ValueError") rfl)⟩
  obtain ⟨x1, xx⟩ := He.ba cc.ex
  obtain ⟨x2, xx⟩ := He.ba xx
  obtain ⟨x3, xx⟩ := He.ba xx
  obtain ⟨x4, xx⟩ := He.ba xx
  obtain ⟨x5, x6⟩ := He.ba xx
  have C : Co K mg := ⟨exT_of X G x2, xfT_of X G x3, kiT_of X G x4 x5, He.int_ok X G (c.fact 25 rfl), He.str_ok X G (c.fact 26 rfl), He.str_ok X G (c.fact 27 rfl), He.int_ok X G (c.fact 28 rfl), He.int_ok X G (c.fact 29 rfl), gloB_ok X G (List.all_eq_true.mp x1 "BookError" (by decide)), gloB_ok X G (List.all_eq_true.mp x1 "BadName" (by decide)), gloB_ok X G (List.all_eq_true.mp x1 "BadText" (by decide))⟩
  have hsup : mg ("super" : Str) = none := He.free_ok X G (c.fact 30 (f := .free "super") rfl)
  have E_BadText : ErrS PySem.Challenge.pw_liftedliars_k00_value_texts K mg e_BadText := errB_ok (P := PySem.Challenge.pw_liftedliars_k00_value_texts) X G (List.all_eq_true.mp x6 e_BadText (by simp [er])) (cc.err 1 (d := e_BadText) rfl) hsup (by decide +kernel) (by rfl) cc.th
  have e := hfa.symm.trans g_law
  cases e
  have b := FunD.bindsA (ps := ["script"]) F_law fun _ _ _ _ _ _ us hl => match us, hl with | [_], _ => rfl
  refine ⟨fd_law, fun s v => b s [v] rfl, fun base _ _ => ?_⟩
  have r_BadText := rr_BadText (w := w) (base := base) E_BadText
  have o_run_end : FnD PySem.Challenge.pw_liftedliars_k00_value_texts w K mg base "run_end" 1 4 m_run_end := ok_run_end F_run_end g_run_end B C 
  have o_read_plain : FnD PySem.Challenge.pw_liftedliars_k00_value_texts w K mg base "read_plain" 3 2 m_read_plain := ok_read_plain F_read_plain g_read_plain B C o_run_end r_BadText
  have o_read_value : FnD PySem.Challenge.pw_liftedliars_k00_value_texts w K mg base "read_value" 4 1 m_read_value := ok_read_value F_read_value g_read_value B C o_read_plain r_BadText
  have o__law_write : FnD PySem.Challenge.pw_liftedliars_k00_value_texts w K mg base "_law_write" 111 1 (m__law_write 110) := ok__law_write F__law_write g__law_write B C  110
  have o__law_same : FnD PySem.Challenge.pw_liftedliars_k00_value_texts w K mg base "_law_same" 111 2 (m__law_same 110) := ok__law_same F__law_same g__law_same B C  110
  have o__law_step : FnD PySem.Challenge.pw_liftedliars_k00_value_texts w K mg base "_law_step" 1 2 m__law_step := ok__law_step F__law_step g__law_step B C 
  have o__law_due : FnD PySem.Challenge.pw_liftedliars_k00_value_texts w K mg base "_law_due" 2 1 m__law_due := ok__law_due F__law_due g__law_due B C o__law_step
  have o__law_read_as_due : FnD PySem.Challenge.pw_liftedliars_k00_value_texts w K mg base "_law_read_as_due" 112 1 m__law_read_as_due := ok__law_read_as_due F__law_read_as_due g__law_read_as_due B C o__law_write o_read_value o__law_same o__law_due
  have o__law_cell : FnD PySem.Challenge.pw_liftedliars_k00_value_texts w K mg base "_law_cell" 1 2 m__law_cell := ok__law_cell F__law_cell g__law_cell B C 
  have o__law_spoilt : FnD PySem.Challenge.pw_liftedliars_k00_value_texts w K mg base "_law_spoilt" 1 2 m__law_spoilt := ok__law_spoilt F__law_spoilt g__law_spoilt B C 
  have o_value_text : FnD PySem.Challenge.pw_liftedliars_k00_value_texts w K mg base "value_text" 111 1 (m_value_text 110) := ok_value_text F_value_text g_value_text B C  110
  have o__law_draws : FnD PySem.Challenge.pw_liftedliars_k00_value_texts w K mg base "_law_draws" 1 2 m__law_draws := ok__law_draws F__law_draws g__law_draws B C 
  have o__law_word : FnD PySem.Challenge.pw_liftedliars_k00_value_texts w K mg base "_law_word" 2 1 m__law_word := ok__law_word F__law_word g__law_word B C o__law_draws
  have o__law_value : FnD PySem.Challenge.pw_liftedliars_k00_value_texts w K mg base "_law_value" 3 1 m__law_value := ok__law_value F__law_value g__law_value B C o__law_cell o__law_word
  exact funD_ok F_law sc_law (body_law B C o_read_value o__law_read_as_due o__law_cell o__law_spoilt o__law_same o__law_write o_value_text o__law_value)
end LK
set_option Elab.async false
set_option linter.all false
set_option maxRecDepth 100000
namespace LK
open PySem PySem.Spec PyProof.Rows L2 DL
theorem mulA {μ : Mem} {i j : Int} (h : CMulW i j) : gMulA μ (.int i) (.int j) = some (.int (i * j)) := by
  unfold gMulA
  rw [DL.mul_int h, Option.some_or]
@[simp] theorem intA (μ : Mem) (i : Int) : gIntA μ [.int i] = some (.int i) := rfl
theorem okI (l : List Int) : okAL (l.map D.int) = true := okAL_map (fun _ => rfl) l
theorem cell_eq (ns : List Int) (k : Nat) (h : ns.length ≤ 63) : ∃ c : Int, m__law_cell [.lck (ns.map D.int), .int k] = some (.ok (.int c)) := by
  unfold m__law_cell b__law_cell
  by_cases hk : k < ns.length
  · have hi : ∀ μ, gIx μ (.lck (ns.map D.int)) (.int k) = some (.int (ns.getD k 0)) := fun μ => ix_int (.inr rfl) (by omega) (by omega)
    exact ⟨ns.getD k 0, by simp [hk, hi]⟩
  · exact ⟨0, by simp [hk]⟩
def Dr (l : List Int) : Prop := ∀ x ∈ l, 0 ≤ x ∧ x < 60
theorem Dr.snoc {l : List Int} {x : Int} (h : Dr l) (h0 : 0 ≤ x) (h1 : x < 60) : Dr (l ++ [x]) := fun y hy => by
  rcases List.mem_append.mp hy with q | q
  · exact h y q
  · rw [List.mem_singleton.mp q]; exact ⟨h0, h1⟩
theorem draws_b2 (c r n : Int) (l : List Int) (k : Nat) (hl : l.length ≤ 1000) :
    _law_draws_b2 [some (.int c), some (.int n), some (.ref 0), some (.int r), some (.int k), none, none] [.lst (l.map D.int)] =
      some (.nx, [some (.int c), some (.int n), some (.ref 0), some (.int (r / 60)), some (.int k), none, none], [.lst ((l ++ [r % 60]).map D.int)]) := by
  have h1 : ∀ d : Int, muAppend [.lst (l.map D.int)] (.ref 0) [.int d] = some (.non, [.lst ((l ++ [d]).map D.int)]) := fun d => by
    rw [app_ref (es := l.map D.int) rfl (by simp; omega) rfl]
    simp
  have h2 : ∀ μ, gModI μ (.int r) (.int 60) = some (.int (r % 60)) := fun μ => mod_int (by decide)
  have h3 : ∀ μ, gDivI μ (.int r) (.int 60) = some (.int (r / 60)) := fun μ => div_int ⟨by decide, by decide⟩
  unfold _law_draws_b2
  simp [h1, h2, h3]
theorem small_mul {i j : Int} (a b : Nat) (ha : i.natAbs < 2 ^ a) (hb : j.natAbs < 2 ^ b) (h0 : 0 < a := by decide) (h1 : 0 < b := by decide) (h : a + b ≤ 1000000 := by decide) : CMulW i j := wide_mul ha hb h0 h1 h
theorem draws_b1 (c r n st : Int) (o : Option D) (l : List Int) (k : Nat) (hk : k ≤ 1000) (hs : st.natAbs < 2 ^ 70) (hl : l.length ≤ 1000) : ∃ (st' x : Int) (o' : Option D), st'.natAbs < 2 ^ 70 ∧ 0 ≤ x ∧ x < 60 ∧
    _law_draws_b1 [some (.int c), some (.int n), some (.ref 0), some (.int r), some (.int k), some (.int st), o] [.lst (l.map D.int)] =
      some (.nx, [some (.int c), some (.int n), some (.ref 0), some (.int r), some (.int k), some (.int st'), o'], [.lst ((l ++ [x]).map D.int)]) := by
  have h1 : ∀ d : Int, muAppend [.lst (l.map D.int)] (.ref 0) [.int d] = some (.non, [.lst ((l ++ [d]).map D.int)]) := fun d => by
    rw [app_ref (es := l.map D.int) rfl (by simp; omega) rfl]
    simp
  have h2 : ∀ μ (r : Int), gModI μ (.int r) (.int 60) = some (.int (r % 60)) := fun μ r => mod_int (by decide)
  have h3 : ∀ μ (r : Int), gDivI μ (.int r) (.int 3) = some (.int (r / 3)) := fun μ r => div_int ⟨by decide, by decide⟩
  have h4 : ∀ μ (r : Int), gModI μ (.int r) (.int 2147483647) = some (.int (r % 2147483647)) := fun μ r => mod_int (by decide)
  have h5 : ∀ μ (r : Int), gModI μ (.int r) (.int 1000003) = some (.int (r % 1000003)) := fun μ r => mod_int (by decide)
  have h6 : ∀ μ, gMulA μ (.int st) (.int 48271) = some (.int (st * 48271)) := fun μ => mulA (small_mul 70 20 hs (by decide))
  have h7 : ∀ μ, gMulA μ (.int 12345) (.int k) = some (.int (12345 * k)) := fun μ => mulA (small_mul 20 20 (by decide) (by omega))
  have hst : ((st * 48271 + 12345 * k + 7) % 2147483647).natAbs < 2 ^ 70 := by omega
  have h8 : ∀ μ, gMulA μ (.int ((st * 48271 + 12345 * k + 7) % 2147483647)) (.int 69621) = some (.int ((st * 48271 + 12345 * k + 7) % 2147483647 * 69621)) := fun μ => mulA (small_mul 70 20 hst (by decide))
  refine ⟨(st * 48271 + 12345 * k + 7) % 2147483647, ((st * 48271 + 12345 * k + 7) % 2147483647 * 69621 + k) % 1000003 / 3 % 60, some (.int (((st * 48271 + 12345 * k + 7) % 2147483647 * 69621 + k) % 1000003)), hst, by omega, by omega, ?_⟩
  unfold _law_draws_b1
  simp only [sSeq_e, sAsg_e, sDrop_e, eOwn_e, eBin_e, eCB_e, eCons_e, eNil_e, eV_e, eC_e, eMu_e, List.getElem?_cons_zero, List.getElem?_cons_succ, h6, h7, DL.add_int, intA, h4, gD_e, List.set_cons_succ, List.set_cons_zero, h8, h5, h3, h2, isl_ref, h1]
theorem draws_eq (c : Int) (n : Nat) (h : n ≤ 100) : ∃ l : List Int, m__law_draws [.int c, .int n] = some (.ok (.new (l.map D.int))) ∧ l.length = n ∧ Dr l := by
  have hp : ∀ μ, gPowI μ (.int 10) (.int 18) = some (.int 1000000000000000000) := fun μ => by rw [pow_int ⟨by decide, by decide, by decide⟩]; rfl
  have hrange : ∀ (sd : Sl) (μ : Mem), sd[1]? = some (some (.int n)) → iR1 (eCons (eV 1) eNil) sd μ = some (.ok ((List.range n).map (fun i : Nat => D.int i), fun _ => True), μ) := fun sd μ q => iR1_of (by simp [q]) (by omega)
  generalize hr : (if c < 0 then -c else c) = r
  have hl2 : ∃ (sd : Sl) (l : List Int), _law_draws_l2 [some (.int c), some (.int n), some (.ref 0), some (.int r), none, none, none] [.lst []] = some (.nx, sd, [.lst (l.map D.int)]) ∧ l.length = n ∧ Dr l ∧ sd[2]? = some (some (.ref 0)) := by
    unfold _law_draws_l2
    rw [sFor_of (hrange _ _ rfl)]
    obtain ⟨sd2, μ2, h1, l, r', o, hl, hd, rfl, rfl⟩ := loop_nx (chk := fun _ => True) (t := gD 4) (b := _law_draws_b2) (fun i : Nat => D.int i)
      (fun dn sd μ => ∃ (l : List Int) (r' : Int) (o : Option D), l.length = dn.length ∧ Dr l ∧ sd = [some (.int c), some (.int n), some (.ref 0), some (.int r'), o, none, none] ∧ μ = [.lst (l.map D.int)]) (List.range n) [] _ _ ⟨[], r, none, rfl, fun x hx => by simp at hx, rfl, rfl⟩ (by
        rintro dn x rest sd μ he ⟨l, r', o, hl, hd, rfl, rfl⟩
        have hlen : dn.length < n := by have := congrArg List.length he; simp at this; omega
        exact ⟨_, _, rfl, _, _, draws_b2 c r' n l x (by omega), trivial, l ++ [r' % 60], r' / 60, some (.int x), by simp [hl], hd.snoc (by omega) (by omega), rfl, rfl⟩)
    exact ⟨_, l, h1, by simpa using hl, hd, rfl⟩
  have hl1 : r < 1000000000000000000 → ∃ (sd : Sl) (l : List Int), _law_draws_l1 [some (.int c), some (.int n), some (.ref 0), some (.int r), none, some (.int (r + 17)), none] [.lst []] = some (.nx, sd, [.lst (l.map D.int)]) ∧ l.length = n ∧ Dr l ∧ sd[2]? = some (some (.ref 0)) := fun hs => by
    unfold _law_draws_l1
    rw [sFor_of (hrange _ _ rfl)]
    obtain ⟨sd2, μ2, h1, l, st, o, o2, hl, hd, hs, rfl, rfl⟩ := loop_nx (chk := fun _ => True) (t := gD 4) (b := _law_draws_b1) (fun i : Nat => D.int i)
      (fun dn sd μ => ∃ (l : List Int) (st : Int) (o o2 : Option D), l.length = dn.length ∧ Dr l ∧ st.natAbs < 2 ^ 70 ∧ sd = [some (.int c), some (.int n), some (.ref 0), some (.int r), o, some (.int st), o2] ∧ μ = [.lst (l.map D.int)]) (List.range n) [] _ _
        ⟨[], r + 17, none, none, rfl, fun x hx => by simp at hx, by omega, rfl, rfl⟩ (by
        rintro dn x rest sd μ he ⟨l, st, o, o2, hl, hd, hst, rfl, rfl⟩
        have hlen : dn.length < n := by have := congrArg List.length he; simp at this; omega
        have hx : x < n := by
          have : x ∈ List.range n := by rw [show List.range n = dn ++ x :: rest from he]; simp
          simpa using this
        obtain ⟨st', y, o', a, b, b2, e⟩ := draws_b1 c r n st o2 l x (by omega) hst (by omega)
        exact ⟨_, _, rfl, _, _, e, trivial, l ++ [y], st', _, _, by simp [hl], hd.snoc b b2, a, rfl, rfl⟩)
    exact ⟨_, l, h1, by simpa using hl, hd, rfl⟩
  unfold m__law_draws b__law_draws
  by_cases hb : 1000000000000000000 ≤ r
  · obtain ⟨sd, l, e, hl, hd, hsd⟩ := hl2
    have ho : outD [.lst (l.map D.int)] (.ref 0) = some (.new (l.map D.int)) := out_ref rfl (plainL_int l)
    exact ⟨l, by simp [hr, hp, hb, e, hsd, ho], hl, hd⟩
  · obtain ⟨sd, l, e, hl, hd, hsd⟩ := hl1 (by omega)
    have ho : outD [.lst (l.map D.int)] (.ref 0) = some (.new (l.map D.int)) := out_ref rfl (plainL_int l)
    exact ⟨l, by simp [hr, hp, hb, e, hsd, ho], hl, hd⟩
end LK
set_option Elab.async false
set_option linter.all false
set_option maxRecDepth 100000
namespace LK
open PySem PySem.Spec PyProof.Rows L2 DL
/-! ### the written form -/
abbrev S (l : List Nat) : Str := ⟨l.toArray⟩
def num (i : Int) : List Nat := ((toString i : String) : Str).cps.toList
mutual
def wr : D → List Nat
  | .int i => num i
  | .str z => z.cps.toList
  | .tup ds => 40 :: (TL.joinL [32] (wrL ds) ++ [41])
  | _ => []
def wrL : List D → List (List Nat)
  | [] => []
  | d :: ds => wr d :: wrL ds
end
theorem wrL_map (ds : List D) : wrL ds = ds.map wr := by
  induction ds with
  | nil => rfl
  | cons d ds ih => show wr d :: wrL ds = _; rw [ih]; rfl
/-- a value of depth at most n, of numbers and words of a size -/
def Good : Nat → D → Prop
  | _, .int i => i.natAbs < 10 ^ 200
  | _, .str z => 1 ≤ z.cps.toList.length ∧ z.cps.toList.length ≤ 20 ∧ ∀ c ∈ z.cps.toList, 97 ≤ c ∧ c ≤ 122
  | 0, .tup _ => False
  | n + 1, .tup ds => ∀ d ∈ ds, Good n d
  | _, _ => False
theorem good_ok : ∀ (n : Nat) (d : D), Good n d → okA d = true ∧ DL.plain d = true := by
  intro n
  induction n with
  | zero => intro d h; cases d <;> first | exact ⟨rfl, rfl⟩ | exact h.elim
  | succ n ih =>
    intro d h
    cases d with
    | tup ds =>
      have key : ∀ ds : List D, (∀ d ∈ ds, Good n d) → okAL ds = true ∧ plainL ds = true := fun ds => by
        induction ds with
        | nil => intro _; exact ⟨rfl, rfl⟩
        | cons d ds ihh =>
          intro h
          obtain ⟨a, b⟩ := ih d (h d List.mem_cons_self)
          obtain ⟨a2, b2⟩ := ihh fun z hz => h z (List.mem_cons_of_mem _ hz)
          exact ⟨by show (okA d && okAL ds) = true; rw [a, a2]; rfl, by show (DL.plain d && plainL ds) = true; rw [b, b2]; rfl⟩
      exact key ds h
    | int i => exact ⟨rfl, rfl⟩
    | str z => exact ⟨rfl, rfl⟩
    | _ => exact h.elim
theorem arg_plain {μ : Mem} {d : D} (h : okA d = true) : argD μ d = some d := by
  cases d <;> first | rfl | exact if_pos h | exact absurd h (by simp [okA])
theorem S_tl (x : Str) : S x.cps.toList = x := SX.S_tl x
theorem S_cat (a b : List Nat) : S a ++ S b = S (a ++ b) := SX.S_cat a b
theorem out_str (μ : Mem) (z : Str) : outD μ (.str z) = some (.str z) := rfl
theorem S_len (a : List Nat) : (S a).length = a.length := SX.S_len a
theorem add_str {μ : Mem} {a b : List Nat} (h : a.length + b.length ≤ 1000000) : gAdd μ (.str (S a)) (.str (S b)) = some (.str (S (a ++ b))) := by
  have h2 : (S a).length + (S b).length ≤ sizeLine := by rw [S_len, S_len]; exact Nat.le_trans h (by decide)
  unfold gAdd
  rw [show gAddI μ (.str (S a)) (.str (S b)) = none from rfl, show gAddT μ (.str (S a)) (.str (S b)) = none from rfl, show gAddL μ (.str (S a)) (.str (S b)) = none from rfl, Option.none_or, Option.none_or, Option.none_or]
  show (if (S a).length + (S b).length ≤ sizeLine then _ else _) = _
  rw [if_pos h2, S_cat]
theorem joinL_len (sep : List Nat) : ∀ ps : List (List Nat), (ps.map List.length).sum ≤ (TL.joinL sep ps).length
  | [] => by simp
  | [p] => by simp [TL.joinL]
  | p :: q :: r => by
    have := joinL_len sep (q :: r)
    simp only [TL.joinL, List.length_append, List.map_cons, List.sum_cons] at this ⊢
    omega
theorem joinL_mem (sep : List Nat) : ∀ {ps : List (List Nat)} {p : List Nat}, p ∈ ps → p.length ≤ (TL.joinL sep ps).length := fun {ps p} h => by
  have h1 := joinL_len sep ps
  have h2 : p.length ≤ (ps.map List.length).sum := by
    induction ps with
    | nil => simp at h
    | cons q r ih =>
      rw [List.map_cons, List.sum_cons]
      rcases List.mem_cons.mp h with e | e
      · rw [e]; omega
      · have := ih e (joinL_len sep r); omega
  omega
theorem num_nat (n : Nat) : num (n : Int) = TL.numL n := TL.tl_num n
theorem num_neg (n : Nat) (h : 1 ≤ n) : num (-(n : Int)) = 45 :: TL.numL n := by
  have e := toString_neg (n := -(n : Int)) (by omega)
  rw [show (0 : Int) - -(n : Int) = (n : Int) by omega] at e
  have e2 : ∀ a b : String, (Str.ofString (a ++ b)).cps.toList = (Str.ofString a).cps.toList ++ (Str.ofString b).cps.toList := fun a b => by
    rw [signs_ofString, signs_ofString, signs_ofString, String.toList_append, List.map_append]
  unfold num
  rw [e, e2]
  show [45] ++ num (n : Int) = _
  rw [num_nat]
  rfl
theorem num_pos (i : Int) : 1 ≤ (num i).length := by
  by_cases h : 0 ≤ i
  · obtain ⟨n, rfl⟩ := Int.eq_ofNat_of_zero_le h
    rw [num_nat]
    have := TL.numL_ne n
    cases hq : TL.numL n with
    | nil => exact absurd hq this
    | cons _ _ => simp
  · obtain ⟨n, hn⟩ := Int.eq_ofNat_of_zero_le (show 0 ≤ -i by omega)
    rw [show i = -(n : Int) by omega, num_neg n (by omega)]
    simp
theorem wr_pos : ∀ (n : Nat) (d : D), Good n d → 1 ≤ (wr d).length := fun n d h => by
  cases d with
  | int i => exact num_pos i
  | str z => cases n <;> exact h.1
  | tup ds => simp [wr]
  | _ => cases n <;> exact h.elim
theorem join_str {μ : Mem} {d : D} {ys : List (List Nat)} (hd : sqAny μ d = some (ys.map fun y => D.str (S y))) (hp : ∀ y ∈ ys, 1 ≤ y.length) (hl : (TL.joinL [32] ys).length ≤ 1000000) : gJoin μ (.str " ") [d] = some (.str (S (TL.joinL [32] ys))) := by
  have key : ∀ ys : List (List Nat), allD strD (ys.map fun y => D.str (S y)) = some (ys.map S) := fun ys => by
    induction ys with
    | nil => rfl
    | cons y ys ih => show ((strD (D.str (S y))).bind fun i => (allD strD (ys.map fun y => D.str (S y))).map fun is => i :: is) = _; rw [ih]; rfl
  have cnt : ∀ ys : List (List Nat), (∀ y ∈ ys, 1 ≤ y.length) → ys.length ≤ (ys.map List.length).sum := fun ys => by
    induction ys with
    | nil => intro _; simp
    | cons y ys ih =>
      intro h
      have := h y List.mem_cons_self
      have := ih fun z hz => h z (List.mem_cons_of_mem _ hz)
      simp only [List.length_cons, List.map_cons, List.sum_cons]
      omega
  have h1 := joinL_len [32] ys
  have h2 := cnt ys hp
  have e1 : ((ys.map S).map (·.length)).sum = (ys.map List.length).sum := by
    rw [List.map_map]
    exact congrArg List.sum (List.map_congr_left fun y _ => S_len y)
  unfold gJoin
  simp only
  rw [hd]
  simp only [Option.bind_some, key]
  rw [when_t (by rw [e1, List.length_map]; show _ + ys.length * 1 ≤ _; omega)]
  have e2 : (" " : Str) = S [32] := by decide +kernel
  rw [e2, SX.join_S]
theorem str_int {μ : Mem} {i : Int} (h : i.natAbs.log2 < 1920) : gStr μ [.int i] = some (.str (S (num i))) := by
  show when_ _ _ = _
  rw [when_t h]
  unfold num
  rw [S_tl]
set_option exponentiation.threshold 3000 in
theorem int_log {i : Int} (h : i.natAbs < 10 ^ 200) : i.natAbs.log2 < 1920 := PySem.Flt.log2_lt_of (by decide) (Nat.lt_of_lt_of_le h (by decide))
theorem text_eq : ∀ (n : Nat) (d : D), Good n d → (wr d).length ≤ 100000 → m_value_text (n + 1) [d] = some (.ok (.str (S (wr d)))) := by
  intro n
  induction n with
  | zero =>
    intro d h hl
    unfold m_value_text b_value_text
    cases d with
    | int i => simp [str_int (int_log (show i.natAbs < 10 ^ 200 from h)), out_str, wr]
    | str z =>
      have : gStr [] [.str z] = some (.str z) := rfl
      simp [this, out_str, wr, S_tl]
    | _ => exact h.elim
  | succ n ih =>
    intro d h hl
    unfold m_value_text b_value_text
    cases d with
    | int i => simp [str_int (int_log (show i.natAbs < 10 ^ 200 from h)), out_str, wr]
    | str z =>
      have : gStr [] [.str z] = some (.str z) := rfl
      simp [this, out_str, wr, S_tl]
    | tup ds =>
      have hw : (TL.joinL [32] (wrL ds)).length + 2 ≤ 100000 := by simpa [wr] using hl
      have hcount : ds.length ≤ 100000 := by
        have h1 := joinL_len [32] (wrL ds)
        have h2 : ds.length ≤ ((wrL ds).map List.length).sum := by
          rw [wrL_map]
          clear hl hw h1
          induction ds with
          | nil => simp
          | cons y ys ihh =>
            have := wr_pos n y (h y List.mem_cons_self)
            have := ihh fun z hz => h z (List.mem_cons_of_mem _ hz)
            simp only [List.length_cons, List.map_cons, List.sum_cons]
            omega
        omega
      have hc : value_text_c1 (m_value_text (n + 1)) [some (.tup ds), none] [] = some (.ok (.new (ds.map fun d => D.str (S (wr d)))), []) := by
        have z := eLc_all (t := gD 1) (f := eCall (m_value_text (n + 1)) 1 (eCons (eV 1) eNil)) (vs := [1]) (sd := [some (.tup ds), none]) (μ := []) (it := iSeq (eV 0)) (chk := fun _ => True) (ds := ds) ds id (fun d => D.str (S (wr d))) (by simp) (by simp) hcount trivial fun d hd => by
          have hm : wr d ∈ wrL ds := by rw [wrL_map]; exact List.mem_map_of_mem hd
          have hlen := joinL_mem [32] hm
          have e := ih d (h d hd) (by omega)
          have hg := h d hd
          have ok := good_ok n d hg
          have ha := arg_plain (μ := []) ok.1
          refine ⟨[some (.tup ds), some d], ?_, ?_, rfl⟩
          · cases d <;> first | rfl | (exact absurd ok.2 (by simp [DL.plain]))
          · have hv : eV 1 [some (.tup ds), some d] [] = some (.ok d, []) := by
              cases d <;> first | rfl | (exact absurd ok.2 (by simp [DL.plain]))
            rw [eCall_e, eCons_e, hv]
            simp [ha, e]
        exact z
      have hj : gJoin [] (.str " ") [.new (ds.map fun d => D.str (S (wr d)))] = some (.str (S (TL.joinL [32] (wrL ds)))) := join_str (ys := wrL ds) (by rw [wrL_map, List.map_map]; rfl) (fun y hy => by
        rw [wrL_map] at hy
        obtain ⟨d, hd, rfl⟩ := List.mem_map.mp hy
        exact wr_pos n d (h d hd)) (by omega)
      have e1 : ("(" : Str) = S [40] := by decide +kernel
      have e2 : (")" : Str) = S [41] := by decide +kernel
      have a1 : ∀ μ, gAdd μ (.str (S [40])) (.str (S (TL.joinL [32] (wrL ds)))) = some (.str (S ([40] ++ TL.joinL [32] (wrL ds)))) := fun μ => add_str (by simp; omega)
      have a2 : ∀ μ, gAdd μ (.str (S ([40] ++ TL.joinL [32] (wrL ds)))) (.str (S [41])) = some (.str (S ([40] ++ TL.joinL [32] (wrL ds) ++ [41]))) := fun μ => add_str (by simp; omega)
      have ew : wr (.tup ds) = [40] ++ TL.joinL [32] (wrL ds) ++ [41] := by simp [wr]
      rw [ew]
      generalize TL.joinL [32] (wrL ds) = J at *
      rw [e1, e2]
      generalize S ([40] ++ J ++ [41]) = R at *
      generalize S ([40] ++ J) = R1 at *
      generalize S J = R2 at *
      simp [hc, eMs, hj, a1, a2, out_str]
    | _ => exact h.elim
theorem write_eq : ∀ n : Nat, m__law_write n = m_value_text n
  | 0 => rfl
  | n + 1 => by
    show runF 2 (b__law_write (m__law_write n)) = runF 2 (b_value_text (m_value_text n))
    rw [write_eq n]
    rfl
theorem cnt_ok (n : Nat) (ds : List D) (h : ∀ d ∈ ds, Good n d) (hl : (wr (.tup ds)).length ≤ 100000) : ds.length ≤ 100000 := by
  have hw : (TL.joinL [32] (wrL ds)).length + 2 ≤ 100000 := by simpa [wr] using hl
  have h1 := joinL_len [32] (wrL ds)
  have h2 : ds.length ≤ ((wrL ds).map List.length).sum := by
    rw [wrL_map]
    clear hl hw h1
    induction ds with
    | nil => simp
    | cons y ys ihh =>
      have := wr_pos n y (h y List.mem_cons_self)
      have := ihh fun z hz => h z (List.mem_cons_of_mem _ hz)
      simp only [List.length_cons, List.map_cons, List.sum_cons]
      omega
  omega
/-! ### _law_same of a value with itself -/
theorem same_eq {μ : Mem} {d : D} {p : PyData} (h : toPm μ d = some p) (hs : SeqAt.shaped p = true) (he : PyData.eqv p p = true) : gEqD false μ d d = some (.bl true) := by
  rw [eq_of h h hs hs, he]
  rfl
theorem same_str {μ : Mem} {z : Str} (h : ∀ c ∈ z.cps.toList, 97 ≤ c ∧ c ≤ 122) : gEqD false μ (.str z) (.str z) = some (.bl true) := by
  refine same_eq (p := .str z) rfl ?_ (by simp [PyData.eqv])
  have : z.cps.all (· < 0x110000) = true := by
    rw [← Array.all_toList, List.all_eq_true]
    intro c hc
    have := h c hc
    exact decide_eq_true (by omega)
  simp [SeqAt.shaped, PyData.canLay0, PyData.depth, PyData.strOk, this]
theorem ix_self {μ : Mem} {ds : List D} {k : Nat} (hk : k < ds.length) (hn : ∀ d ∈ ds, notNew d = true) : gIx μ (.tup ds) (.int k) = some (ds[k]'hk) := by
  refine gIx_int (ds := ds) (.inl rfl) (atI_nat ds k hk) fun es e => ?_
  have := hn _ (List.getElem_mem hk)
  rw [e] at this
  cases this
theorem same_self : ∀ (n : Nat) (d : D), Good n d → (wr d).length ≤ 100000 → m__law_same (n + 1) [d, d] = some (.ok (.bl true)) := by
  intro n
  induction n with
  | zero =>
    intro d h hl
    unfold m__law_same b__law_same
    cases d with
    | int i => simp
    | str z => simp [same_str h.2.2]
    | _ => exact h.elim
  | succ n ih =>
    intro d h hl
    unfold m__law_same b__law_same
    cases d with
    | int i => simp
    | str z => simp [same_str h.2.2]
    | tup ds =>
      have hn : ∀ d ∈ ds, notNew d = true := fun d hd => by
        have := (good_ok n d (h d hd)).2
        cases d <;> first | rfl | exact absurd this (by simp [DL.plain])
      have hcount : ds.length ≤ 100000 := cnt_ok n ds h hl
      have hl1 : ∃ o, _law_same_l1 (m__law_same (n + 1)) [some (.tup ds), some (.tup ds), none] [] = some (.nx, [some (.tup ds), some (.tup ds), o], []) := by
        unfold _law_same_l1
        rw [sFor_of (iR1_of (n := ds.length) (by simp) hcount)]
        obtain ⟨sd2, μ2, h1, o, rfl, rfl⟩ := loop_nx (chk := fun _ => True) (t := gD 2) (b := _law_same_b1 (m__law_same (n + 1))) (fun i : Nat => D.int i)
          (fun dn sd μ => ∃ o, sd = [some (.tup ds), some (.tup ds), o] ∧ μ = []) (List.range ds.length) [] [some (.tup ds), some (.tup ds), none] [] ⟨none, rfl, rfl⟩ (by
            rintro dn x rest sd μ he ⟨o, rfl, rfl⟩
            have hx : x < ds.length := by
              have : x ∈ List.range ds.length := by rw [show List.range ds.length = dn ++ x :: rest from he]; simp
              simpa using this
            have hi := fun μ => ix_self (μ := μ) hx hn
            have hmem := List.getElem_mem hx
            have hm : wr ds[x] ∈ wrL ds := by rw [wrL_map]; exact List.mem_map_of_mem hmem
            have hlen := joinL_mem [32] hm
            have hw : (TL.joinL [32] (wrL ds)).length + 2 ≤ 100000 := by simpa [wr] using hl
            have e := ih ds[x] (h _ hmem) (by omega)
            have ha := arg_plain (μ := []) (good_ok n _ (h _ hmem)).1
            refine ⟨_, _, rfl, [some (.tup ds), some (.tup ds), some (.int x)], [], ?_, trivial, _, rfl, rfl⟩
            generalize ds[x] = y at *
            unfold _law_same_b1
            simp [hi, ha, e])
        exact ⟨o, h1⟩
      obtain ⟨o, hl1⟩ := hl1
      simp [hl1]
    | _ => exact h.elim
end LK
set_option Elab.async false
set_option linter.all false
set_option maxRecDepth 100000
set_option maxHeartbeats 4000000
namespace LK
open PySem PySem.Spec PyProof.Rows L2 DL
/-! ### the automaton -/
inductive Mo where
  | start | first | minus | zero | digits | word | after
  deriving DecidableEq
def Mo.s : Mo → Str
  | start => "start" | first => "first" | minus => "minus" | zero => "zero" | digits => "digits" | word => "word" | after => "after"
structure AS where
  m : Mo
  d : Nat
  r : Nat
def AS.e (a : AS) : D := .tup [.str a.m.s, .int a.d, .int a.r]
def isD (c : Nat) : Prop := 48 ≤ c ∧ c ≤ 57
def isL (c : Nat) : Prop := 97 ≤ c ∧ c ≤ 122
instance (c : Nat) : Decidable (isD c) := by unfold isD; infer_instance
instance (c : Nat) : Decidable (isL c) := by unfold isL; infer_instance
def afterV (a : AS) (c : Nat) : Option AS := if c = 32 ∧ 0 < a.d then some ⟨.start, a.d, 0⟩ else if c = 41 ∧ 0 < a.d then some ⟨.after, a.d - 1, 0⟩ else none
def begin_ (a : AS) (c : Nat) : Option AS :=
  if c = 40 ∧ a.d < 100 then some ⟨.first, a.d + 1, 0⟩ else if c = 45 then some ⟨.minus, a.d, 0⟩ else if c = 48 then some ⟨.zero, a.d, 0⟩ else if isD c then some ⟨.digits, a.d, 1⟩ else if isL c then some ⟨.word, a.d, 1⟩ else none
def step (a : AS) (c : Nat) : Option AS := match a.m with
  | .start => begin_ a c
  | .first => if c = 41 then some ⟨.after, a.d - 1, 0⟩ else begin_ a c
  | .minus => if isD c ∧ c ≠ 48 then some ⟨.digits, a.d, 1⟩ else none
  | .word => if a.r < 20 ∧ isL c then some ⟨.word, a.d, a.r + 1⟩ else afterV a c
  | .digits => if a.r < 200 ∧ isD c then some ⟨.digits, a.d, a.r + 1⟩ else afterV a c
  | .zero => afterV a c
  | .after => afterV a c
theorem eqs {μ : Mem} {n : Bool} {a b : Str} (ha : PyData.strOk a = true) (hb : PyData.strOk b = true) : gEqD n μ (.str a) (.str b) = some (.bl (if n then !decide (a = b) else decide (a = b))) := by
  rw [eq_of (p := .str a) (q := .str b) rfl rfl (by simp [SeqAt.shaped, PyData.canLay0, PyData.depth, ha]) (by simp [SeqAt.shaped, PyData.canLay0, PyData.depth, hb])]
  simp [PyData.eqv]
  rfl
theorem eqm (μ : Mem) (m k : Mo) : gEqD false μ (.str m.s) (.str k.s) = some (.bl (decide (m.s = k.s))) := eqs (by cases m <;> decide +kernel) (by cases k <;> decide +kernel)
theorem eqc {μ : Mem} {n : Bool} {c k : Nat} (hc : c < 0x110000) (hk : k < 0x110000) : gEqD n μ (.str ⟨#[c]⟩) (.str ⟨#[k]⟩) = some (.bl (if n then !decide (c = k) else decide (c = k))) := by
  rw [eqs (by simp [PyData.strOk, hc]) (by simp [PyData.strOk, hk])]
  simp
theorem inc {μ : Mem} {c : Nat} {z : Str} : gInA false μ (.str ⟨#[c]⟩) (.str z) = some (.bl (decide (c ∈ z.cps.toList))) := by
  unfold gInA gInS sgn
  simp
theorem eqM (μ : Mem) (m k : Mo) (z : Str) (h : z = k.s) : gEqD false μ (.str m.s) (.str z) = some (.bl (decide (m = k))) := by
  subst h
  rw [eqm]
  cases m <;> cases k <;> rfl
theorem dig19 (c : Nat) : (c ∈ ("123456789" : Str).cps.toList) ↔ (isD c ∧ c ≠ 48) := by
  have e : ("123456789" : Str).cps.toList = [49, 50, 51, 52, 53, 54, 55, 56, 57] := by decide +kernel
  rw [e]
  unfold isD
  simp
  omega
theorem dig09 (c : Nat) : (c ∈ ("0123456789" : Str).cps.toList) ↔ isD c := by
  have e : ("0123456789" : Str).cps.toList = [48, 49, 50, 51, 52, 53, 54, 55, 56, 57] := by decide +kernel
  rw [e]
  unfold isD
  simp
  omega
theorem letAZ (c : Nat) : (c ∈ ("abcdefghijklmnopqrstuvwxyz" : Str).cps.toList) ↔ isL c := by
  have e : ("abcdefghijklmnopqrstuvwxyz" : Str).cps.toList = [97, 98, 99, 100, 101, 102, 103, 104, 105, 106, 107, 108, 109, 110, 111, 112, 113, 114, 115, 116, 117, 118, 119, 120, 121, 122] := by decide +kernel
  rw [e]
  unfold isL
  simp
  omega
def encO : Option AS → D
  | none => .non
  | some a => a.e
end LK
set_option Elab.async false
set_option linter.all false
set_option maxRecDepth 100000
set_option maxHeartbeats 4000000
namespace LK
open PySem PySem.Spec PyProof.Rows L2 DL
theorem step_eq (m : Mo) (d r c : Nat) (hc : c < 0x110000) (hd : m = .first → 1 ≤ d) : m__law_step [AS.e ⟨m, d, r⟩, .str ⟨#[c]⟩] = some (.ok (encO (step ⟨m, d, r⟩ c))) := by
  have i0 : ∀ μ, gIx μ (.tup [.str m.s, .int d, .int r]) (.int 0) = some (.str m.s) := fun μ => gIx_int (.inl rfl) rfl (by intro es e; cases e)
  have i1 : ∀ μ, gIx μ (.tup [.str m.s, .int d, .int r]) (.int 1) = some (.int d) := fun μ => gIx_int (.inl rfl) rfl (by intro es e; cases e)
  have i2 : ∀ μ, gIx μ (.tup [.str m.s, .int d, .int r]) (.int 2) = some (.int r) := fun μ => gIx_int (.inl rfl) rfl (by intro es e; cases e)
  have m1 : ∀ μ, gEqD false μ (.str m.s) (.str "start") = some (.bl (decide (m = .start))) := fun μ => eqM μ m .start _ rfl
  have m2 : ∀ μ, gEqD false μ (.str m.s) (.str "first") = some (.bl (decide (m = .first))) := fun μ => eqM μ m .first _ rfl
  have m3 : ∀ μ, gEqD false μ (.str m.s) (.str "minus") = some (.bl (decide (m = .minus))) := fun μ => eqM μ m .minus _ rfl
  have m4 : ∀ μ, gEqD false μ (.str m.s) (.str "word") = some (.bl (decide (m = .word))) := fun μ => eqM μ m .word _ rfl
  have m5 : ∀ μ, gEqD false μ (.str m.s) (.str "digits") = some (.bl (decide (m = .digits))) := fun μ => eqM μ m .digits _ rfl
  have k40 : ∀ μ, gEqD false μ (.str ⟨#[c]⟩) (.str "(") = some (.bl (decide (c = 40))) := fun μ => by rw [show ("(" : Str) = ⟨#[40]⟩ by decide +kernel, eqc hc (by decide)]; rfl
  have k41 : ∀ μ, gEqD false μ (.str ⟨#[c]⟩) (.str ")") = some (.bl (decide (c = 41))) := fun μ => by rw [show (")" : Str) = ⟨#[41]⟩ by decide +kernel, eqc hc (by decide)]; rfl
  have k45 : ∀ μ, gEqD false μ (.str ⟨#[c]⟩) (.str "-") = some (.bl (decide (c = 45))) := fun μ => by rw [show ("-" : Str) = ⟨#[45]⟩ by decide +kernel, eqc hc (by decide)]; rfl
  have k48 : ∀ μ, gEqD false μ (.str ⟨#[c]⟩) (.str "0") = some (.bl (decide (c = 48))) := fun μ => by rw [show ("0" : Str) = ⟨#[48]⟩ by decide +kernel, eqc hc (by decide)]; rfl
  have k32 : ∀ μ, gEqD false μ (.str ⟨#[c]⟩) (.str " ") = some (.bl (decide (c = 32))) := fun μ => by rw [show (" " : Str) = ⟨#[32]⟩ by decide +kernel, eqc hc (by decide)]; rfl
  have n19 : ∀ μ, gInA false μ (.str ⟨#[c]⟩) (.str "123456789") = some (.bl (decide (isD c ∧ c ≠ 48))) := fun μ => by rw [inc]; simp only [dig19]
  have n09 : ∀ μ, gInA false μ (.str ⟨#[c]⟩) (.str "0123456789") = some (.bl (decide (isD c))) := fun μ => by rw [inc]; simp only [dig09]
  have nAZ : ∀ μ, gInA false μ (.str ⟨#[c]⟩) (.str "abcdefghijklmnopqrstuvwxyz") = some (.bl (decide (isL c))) := fun μ => by rw [inc]; simp only [letAZ]
  have o3 : ∀ μ (z : Str) (i j : Int), outD μ (.tup [.str z, .int i, .int j]) = some (.tup [.str z, .int i, .int j]) := fun _ _ _ _ => rfl
  have w1 : ¬ isD 40 := by decide
  have w2 : ¬ isD 41 := by decide
  have w3 : ¬ isD 45 := by decide
  have w4 : ¬ isD 32 := by decide
  have w5 : isD 48 := by decide
  have w6 : ¬ isL 40 := by decide
  have w7 : ¬ isL 41 := by decide
  have w8 : ¬ isL 45 := by decide
  have w9 : ¬ isL 32 := by decide
  have w0 : ¬ isL 48 := by decide
  unfold AS.e m__law_step b__law_step
  simp only []
  generalize (⟨#[c]⟩ : Str) = Z at *
  cases m with
  | minus =>
    by_cases ha : isD c
    ·
      by_cases hb : c ≠ 48
      ·
        rw [show step _ c = some ⟨.digits, d, 1⟩ by simp [step, begin_, afterV, w0, w1, w2, w3, w4, w5, w6, w7, w8, w9, ha, hb]]
        show _ = (some (Except.ok (.tup [.str "digits", .int d, .int ((1 : Nat) : Int)])) : Option (Except Exn D))
        simp [i0, i1, i2, m1, m2, m3, m4, m5, k40, k41, k45, k48, k32, n19, n09, nAZ, o3, w0, w1, w2, w3, w4, w5, w6, w7, w8, w9, ha, hb]
      ·
        rw [show step _ c = none by simp [step, begin_, afterV, w0, w1, w2, w3, w4, w5, w6, w7, w8, w9, ha, hb]]
        show _ = (some (Except.ok D.non) : Option (Except Exn D))
        simp [i0, i1, i2, m1, m2, m3, m4, m5, k40, k41, k45, k48, k32, n19, n09, nAZ, o3, w0, w1, w2, w3, w4, w5, w6, w7, w8, w9, ha, hb]
    ·
      rw [show step _ c = none by simp [step, begin_, afterV, w0, w1, w2, w3, w4, w5, w6, w7, w8, w9, ha]]
      show _ = (some (Except.ok D.non) : Option (Except Exn D))
      simp [i0, i1, i2, m1, m2, m3, m4, m5, k40, k41, k45, k48, k32, n19, n09, nAZ, o3, w0, w1, w2, w3, w4, w5, w6, w7, w8, w9, ha]
  | zero =>
    by_cases h6a : c = 32
    ·
      by_cases h6b : 0 < d
      ·
        have h6q : decide ((0 : Int) < (d : Int)) = true := decide_eq_true (by omega)
        rw [show step _ c = some ⟨.start, d, 0⟩ by simp [step, begin_, afterV, w0, w1, w2, w3, w4, w5, w6, w7, w8, w9, h6a, h6b, h6q]]
        show _ = (some (Except.ok (.tup [.str "start", .int d, .int ((0 : Nat) : Int)])) : Option (Except Exn D))
        simp [i0, i1, i2, m1, m2, m3, m4, m5, k40, k41, k45, k48, k32, n19, n09, nAZ, o3, w0, w1, w2, w3, w4, w5, w6, w7, w8, w9, h6a, h6b, h6q]
      ·
        have h6n : decide ((0 : Int) < (d : Int)) = false := decide_eq_false (by omega)
        rw [show step _ c = none by simp [step, begin_, afterV, w0, w1, w2, w3, w4, w5, w6, w7, w8, w9, h6a, h6b, h6n]]
        show _ = (some (Except.ok D.non) : Option (Except Exn D))
        simp [i0, i1, i2, m1, m2, m3, m4, m5, k40, k41, k45, k48, k32, n19, n09, nAZ, o3, w0, w1, w2, w3, w4, w5, w6, w7, w8, w9, h6a, h6b, h6n]
    ·
      by_cases h7a : c = 41
      ·
        by_cases h7b : 0 < d
        ·
          have h7q : decide ((0 : Int) < (d : Int)) = true := decide_eq_true (by omega)
          rw [show step _ c = some ⟨.after, d - 1, 0⟩ by simp [step, begin_, afterV, w0, w1, w2, w3, w4, w5, w6, w7, w8, w9, h6a, h7a, h7b, h7q]]
          show _ = (some (Except.ok (.tup [.str "after", .int ((d - 1 : Nat) : Int), .int ((0 : Nat) : Int)])) : Option (Except Exn D))
          simp [i0, i1, i2, m1, m2, m3, m4, m5, k40, k41, k45, k48, k32, n19, n09, nAZ, o3, w0, w1, w2, w3, w4, w5, w6, w7, w8, w9, h6a, h7a, h7b, h7q] <;> omega
        ·
          have h7n : decide ((0 : Int) < (d : Int)) = false := decide_eq_false (by omega)
          rw [show step _ c = none by simp [step, begin_, afterV, w0, w1, w2, w3, w4, w5, w6, w7, w8, w9, h6a, h7a, h7b, h7n]]
          show _ = (some (Except.ok D.non) : Option (Except Exn D))
          simp [i0, i1, i2, m1, m2, m3, m4, m5, k40, k41, k45, k48, k32, n19, n09, nAZ, o3, w0, w1, w2, w3, w4, w5, w6, w7, w8, w9, h6a, h7a, h7b, h7n]
      ·
        rw [show step _ c = none by simp [step, begin_, afterV, w0, w1, w2, w3, w4, w5, w6, w7, w8, w9, h6a, h7a]]
        show _ = (some (Except.ok D.non) : Option (Except Exn D))
        simp [i0, i1, i2, m1, m2, m3, m4, m5, k40, k41, k45, k48, k32, n19, n09, nAZ, o3, w0, w1, w2, w3, w4, w5, w6, w7, w8, w9, h6a, h7a]
  | after =>
    by_cases h6a : c = 32
    ·
      by_cases h6b : 0 < d
      ·
        have h6q : decide ((0 : Int) < (d : Int)) = true := decide_eq_true (by omega)
        rw [show step _ c = some ⟨.start, d, 0⟩ by simp [step, begin_, afterV, w0, w1, w2, w3, w4, w5, w6, w7, w8, w9, h6a, h6b, h6q]]
        show _ = (some (Except.ok (.tup [.str "start", .int d, .int ((0 : Nat) : Int)])) : Option (Except Exn D))
        simp [i0, i1, i2, m1, m2, m3, m4, m5, k40, k41, k45, k48, k32, n19, n09, nAZ, o3, w0, w1, w2, w3, w4, w5, w6, w7, w8, w9, h6a, h6b, h6q]
      ·
        have h6n : decide ((0 : Int) < (d : Int)) = false := decide_eq_false (by omega)
        rw [show step _ c = none by simp [step, begin_, afterV, w0, w1, w2, w3, w4, w5, w6, w7, w8, w9, h6a, h6b, h6n]]
        show _ = (some (Except.ok D.non) : Option (Except Exn D))
        simp [i0, i1, i2, m1, m2, m3, m4, m5, k40, k41, k45, k48, k32, n19, n09, nAZ, o3, w0, w1, w2, w3, w4, w5, w6, w7, w8, w9, h6a, h6b, h6n]
    ·
      by_cases h7a : c = 41
      ·
        by_cases h7b : 0 < d
        ·
          have h7q : decide ((0 : Int) < (d : Int)) = true := decide_eq_true (by omega)
          rw [show step _ c = some ⟨.after, d - 1, 0⟩ by simp [step, begin_, afterV, w0, w1, w2, w3, w4, w5, w6, w7, w8, w9, h6a, h7a, h7b, h7q]]
          show _ = (some (Except.ok (.tup [.str "after", .int ((d - 1 : Nat) : Int), .int ((0 : Nat) : Int)])) : Option (Except Exn D))
          simp [i0, i1, i2, m1, m2, m3, m4, m5, k40, k41, k45, k48, k32, n19, n09, nAZ, o3, w0, w1, w2, w3, w4, w5, w6, w7, w8, w9, h6a, h7a, h7b, h7q] <;> omega
        ·
          have h7n : decide ((0 : Int) < (d : Int)) = false := decide_eq_false (by omega)
          rw [show step _ c = none by simp [step, begin_, afterV, w0, w1, w2, w3, w4, w5, w6, w7, w8, w9, h6a, h7a, h7b, h7n]]
          show _ = (some (Except.ok D.non) : Option (Except Exn D))
          simp [i0, i1, i2, m1, m2, m3, m4, m5, k40, k41, k45, k48, k32, n19, n09, nAZ, o3, w0, w1, w2, w3, w4, w5, w6, w7, w8, w9, h6a, h7a, h7b, h7n]
      ·
        rw [show step _ c = none by simp [step, begin_, afterV, w0, w1, w2, w3, w4, w5, w6, w7, w8, w9, h6a, h7a]]
        show _ = (some (Except.ok D.non) : Option (Except Exn D))
        simp [i0, i1, i2, m1, m2, m3, m4, m5, k40, k41, k45, k48, k32, n19, n09, nAZ, o3, w0, w1, w2, w3, w4, w5, w6, w7, w8, w9, h6a, h7a]
  | word =>
    by_cases ha : r < 20
    ·
      have hp : decide ((r : Int) < 20) = true := decide_eq_true (by omega)
      by_cases hb : isL c
      ·
        rw [show step _ c = some ⟨.word, d, r + 1⟩ by simp [step, begin_, afterV, w0, w1, w2, w3, w4, w5, w6, w7, w8, w9, ha, hb, hp]]
        show _ = (some (Except.ok (.tup [.str "word", .int d, .int ((r + 1 : Nat) : Int)])) : Option (Except Exn D))
        simp [i0, i1, i2, m1, m2, m3, m4, m5, k40, k41, k45, k48, k32, n19, n09, nAZ, o3, w0, w1, w2, w3, w4, w5, w6, w7, w8, w9, ha, hb, hp]
      ·
        by_cases h6a : c = 32
        ·
          by_cases h6b : 0 < d
          ·
            have h6q : decide ((0 : Int) < (d : Int)) = true := decide_eq_true (by omega)
            rw [show step _ c = some ⟨.start, d, 0⟩ by simp [step, begin_, afterV, w0, w1, w2, w3, w4, w5, w6, w7, w8, w9, ha, hb, hp, h6a, h6b, h6q]]
            show _ = (some (Except.ok (.tup [.str "start", .int d, .int ((0 : Nat) : Int)])) : Option (Except Exn D))
            simp [i0, i1, i2, m1, m2, m3, m4, m5, k40, k41, k45, k48, k32, n19, n09, nAZ, o3, w0, w1, w2, w3, w4, w5, w6, w7, w8, w9, ha, hb, hp, h6a, h6b, h6q]
          ·
            have h6n : decide ((0 : Int) < (d : Int)) = false := decide_eq_false (by omega)
            rw [show step _ c = none by simp [step, begin_, afterV, w0, w1, w2, w3, w4, w5, w6, w7, w8, w9, ha, hb, hp, h6a, h6b, h6n]]
            show _ = (some (Except.ok D.non) : Option (Except Exn D))
            simp [i0, i1, i2, m1, m2, m3, m4, m5, k40, k41, k45, k48, k32, n19, n09, nAZ, o3, w0, w1, w2, w3, w4, w5, w6, w7, w8, w9, ha, hb, hp, h6a, h6b, h6n]
        ·
          by_cases h7a : c = 41
          ·
            by_cases h7b : 0 < d
            ·
              have h7q : decide ((0 : Int) < (d : Int)) = true := decide_eq_true (by omega)
              rw [show step _ c = some ⟨.after, d - 1, 0⟩ by simp [step, begin_, afterV, w0, w1, w2, w3, w4, w5, w6, w7, w8, w9, ha, hb, hp, h6a, h7a, h7b, h7q]]
              show _ = (some (Except.ok (.tup [.str "after", .int ((d - 1 : Nat) : Int), .int ((0 : Nat) : Int)])) : Option (Except Exn D))
              simp [i0, i1, i2, m1, m2, m3, m4, m5, k40, k41, k45, k48, k32, n19, n09, nAZ, o3, w0, w1, w2, w3, w4, w5, w6, w7, w8, w9, ha, hb, hp, h6a, h7a, h7b, h7q] <;> omega
            ·
              have h7n : decide ((0 : Int) < (d : Int)) = false := decide_eq_false (by omega)
              rw [show step _ c = none by simp [step, begin_, afterV, w0, w1, w2, w3, w4, w5, w6, w7, w8, w9, ha, hb, hp, h6a, h7a, h7b, h7n]]
              show _ = (some (Except.ok D.non) : Option (Except Exn D))
              simp [i0, i1, i2, m1, m2, m3, m4, m5, k40, k41, k45, k48, k32, n19, n09, nAZ, o3, w0, w1, w2, w3, w4, w5, w6, w7, w8, w9, ha, hb, hp, h6a, h7a, h7b, h7n]
          ·
            rw [show step _ c = none by simp [step, begin_, afterV, w0, w1, w2, w3, w4, w5, w6, w7, w8, w9, ha, hb, hp, h6a, h7a]]
            show _ = (some (Except.ok D.non) : Option (Except Exn D))
            simp [i0, i1, i2, m1, m2, m3, m4, m5, k40, k41, k45, k48, k32, n19, n09, nAZ, o3, w0, w1, w2, w3, w4, w5, w6, w7, w8, w9, ha, hb, hp, h6a, h7a]
    ·
      have hm : decide ((r : Int) < 20) = false := decide_eq_false (by omega)
      by_cases h6a : c = 32
      ·
        by_cases h6b : 0 < d
        ·
          have h6q : decide ((0 : Int) < (d : Int)) = true := decide_eq_true (by omega)
          rw [show step _ c = some ⟨.start, d, 0⟩ by simp [step, begin_, afterV, w0, w1, w2, w3, w4, w5, w6, w7, w8, w9, ha, hm, h6a, h6b, h6q]]
          show _ = (some (Except.ok (.tup [.str "start", .int d, .int ((0 : Nat) : Int)])) : Option (Except Exn D))
          simp [i0, i1, i2, m1, m2, m3, m4, m5, k40, k41, k45, k48, k32, n19, n09, nAZ, o3, w0, w1, w2, w3, w4, w5, w6, w7, w8, w9, ha, hm, h6a, h6b, h6q]
        ·
          have h6n : decide ((0 : Int) < (d : Int)) = false := decide_eq_false (by omega)
          rw [show step _ c = none by simp [step, begin_, afterV, w0, w1, w2, w3, w4, w5, w6, w7, w8, w9, ha, hm, h6a, h6b, h6n]]
          show _ = (some (Except.ok D.non) : Option (Except Exn D))
          simp [i0, i1, i2, m1, m2, m3, m4, m5, k40, k41, k45, k48, k32, n19, n09, nAZ, o3, w0, w1, w2, w3, w4, w5, w6, w7, w8, w9, ha, hm, h6a, h6b, h6n]
      ·
        by_cases h7a : c = 41
        ·
          by_cases h7b : 0 < d
          ·
            have h7q : decide ((0 : Int) < (d : Int)) = true := decide_eq_true (by omega)
            rw [show step _ c = some ⟨.after, d - 1, 0⟩ by simp [step, begin_, afterV, w0, w1, w2, w3, w4, w5, w6, w7, w8, w9, ha, hm, h6a, h7a, h7b, h7q]]
            show _ = (some (Except.ok (.tup [.str "after", .int ((d - 1 : Nat) : Int), .int ((0 : Nat) : Int)])) : Option (Except Exn D))
            simp [i0, i1, i2, m1, m2, m3, m4, m5, k40, k41, k45, k48, k32, n19, n09, nAZ, o3, w0, w1, w2, w3, w4, w5, w6, w7, w8, w9, ha, hm, h6a, h7a, h7b, h7q] <;> omega
          ·
            have h7n : decide ((0 : Int) < (d : Int)) = false := decide_eq_false (by omega)
            rw [show step _ c = none by simp [step, begin_, afterV, w0, w1, w2, w3, w4, w5, w6, w7, w8, w9, ha, hm, h6a, h7a, h7b, h7n]]
            show _ = (some (Except.ok D.non) : Option (Except Exn D))
            simp [i0, i1, i2, m1, m2, m3, m4, m5, k40, k41, k45, k48, k32, n19, n09, nAZ, o3, w0, w1, w2, w3, w4, w5, w6, w7, w8, w9, ha, hm, h6a, h7a, h7b, h7n]
        ·
          rw [show step _ c = none by simp [step, begin_, afterV, w0, w1, w2, w3, w4, w5, w6, w7, w8, w9, ha, hm, h6a, h7a]]
          show _ = (some (Except.ok D.non) : Option (Except Exn D))
          simp [i0, i1, i2, m1, m2, m3, m4, m5, k40, k41, k45, k48, k32, n19, n09, nAZ, o3, w0, w1, w2, w3, w4, w5, w6, w7, w8, w9, ha, hm, h6a, h7a]
  | digits =>
    by_cases ha : r < 200
    ·
      have hp : decide ((r : Int) < 200) = true := decide_eq_true (by omega)
      by_cases hb : isD c
      ·
        rw [show step _ c = some ⟨.digits, d, r + 1⟩ by simp [step, begin_, afterV, w0, w1, w2, w3, w4, w5, w6, w7, w8, w9, ha, hb, hp]]
        show _ = (some (Except.ok (.tup [.str "digits", .int d, .int ((r + 1 : Nat) : Int)])) : Option (Except Exn D))
        simp [i0, i1, i2, m1, m2, m3, m4, m5, k40, k41, k45, k48, k32, n19, n09, nAZ, o3, w0, w1, w2, w3, w4, w5, w6, w7, w8, w9, ha, hb, hp]
      ·
        by_cases h6a : c = 32
        ·
          by_cases h6b : 0 < d
          ·
            have h6q : decide ((0 : Int) < (d : Int)) = true := decide_eq_true (by omega)
            rw [show step _ c = some ⟨.start, d, 0⟩ by simp [step, begin_, afterV, w0, w1, w2, w3, w4, w5, w6, w7, w8, w9, ha, hb, hp, h6a, h6b, h6q]]
            show _ = (some (Except.ok (.tup [.str "start", .int d, .int ((0 : Nat) : Int)])) : Option (Except Exn D))
            simp [i0, i1, i2, m1, m2, m3, m4, m5, k40, k41, k45, k48, k32, n19, n09, nAZ, o3, w0, w1, w2, w3, w4, w5, w6, w7, w8, w9, ha, hb, hp, h6a, h6b, h6q]
          ·
            have h6n : decide ((0 : Int) < (d : Int)) = false := decide_eq_false (by omega)
            rw [show step _ c = none by simp [step, begin_, afterV, w0, w1, w2, w3, w4, w5, w6, w7, w8, w9, ha, hb, hp, h6a, h6b, h6n]]
            show _ = (some (Except.ok D.non) : Option (Except Exn D))
            simp [i0, i1, i2, m1, m2, m3, m4, m5, k40, k41, k45, k48, k32, n19, n09, nAZ, o3, w0, w1, w2, w3, w4, w5, w6, w7, w8, w9, ha, hb, hp, h6a, h6b, h6n]
        ·
          by_cases h7a : c = 41
          ·
            by_cases h7b : 0 < d
            ·
              have h7q : decide ((0 : Int) < (d : Int)) = true := decide_eq_true (by omega)
              rw [show step _ c = some ⟨.after, d - 1, 0⟩ by simp [step, begin_, afterV, w0, w1, w2, w3, w4, w5, w6, w7, w8, w9, ha, hb, hp, h6a, h7a, h7b, h7q]]
              show _ = (some (Except.ok (.tup [.str "after", .int ((d - 1 : Nat) : Int), .int ((0 : Nat) : Int)])) : Option (Except Exn D))
              simp [i0, i1, i2, m1, m2, m3, m4, m5, k40, k41, k45, k48, k32, n19, n09, nAZ, o3, w0, w1, w2, w3, w4, w5, w6, w7, w8, w9, ha, hb, hp, h6a, h7a, h7b, h7q] <;> omega
            ·
              have h7n : decide ((0 : Int) < (d : Int)) = false := decide_eq_false (by omega)
              rw [show step _ c = none by simp [step, begin_, afterV, w0, w1, w2, w3, w4, w5, w6, w7, w8, w9, ha, hb, hp, h6a, h7a, h7b, h7n]]
              show _ = (some (Except.ok D.non) : Option (Except Exn D))
              simp [i0, i1, i2, m1, m2, m3, m4, m5, k40, k41, k45, k48, k32, n19, n09, nAZ, o3, w0, w1, w2, w3, w4, w5, w6, w7, w8, w9, ha, hb, hp, h6a, h7a, h7b, h7n]
          ·
            rw [show step _ c = none by simp [step, begin_, afterV, w0, w1, w2, w3, w4, w5, w6, w7, w8, w9, ha, hb, hp, h6a, h7a]]
            show _ = (some (Except.ok D.non) : Option (Except Exn D))
            simp [i0, i1, i2, m1, m2, m3, m4, m5, k40, k41, k45, k48, k32, n19, n09, nAZ, o3, w0, w1, w2, w3, w4, w5, w6, w7, w8, w9, ha, hb, hp, h6a, h7a]
    ·
      have hm : decide ((r : Int) < 200) = false := decide_eq_false (by omega)
      by_cases h6a : c = 32
      ·
        by_cases h6b : 0 < d
        ·
          have h6q : decide ((0 : Int) < (d : Int)) = true := decide_eq_true (by omega)
          rw [show step _ c = some ⟨.start, d, 0⟩ by simp [step, begin_, afterV, w0, w1, w2, w3, w4, w5, w6, w7, w8, w9, ha, hm, h6a, h6b, h6q]]
          show _ = (some (Except.ok (.tup [.str "start", .int d, .int ((0 : Nat) : Int)])) : Option (Except Exn D))
          simp [i0, i1, i2, m1, m2, m3, m4, m5, k40, k41, k45, k48, k32, n19, n09, nAZ, o3, w0, w1, w2, w3, w4, w5, w6, w7, w8, w9, ha, hm, h6a, h6b, h6q]
        ·
          have h6n : decide ((0 : Int) < (d : Int)) = false := decide_eq_false (by omega)
          rw [show step _ c = none by simp [step, begin_, afterV, w0, w1, w2, w3, w4, w5, w6, w7, w8, w9, ha, hm, h6a, h6b, h6n]]
          show _ = (some (Except.ok D.non) : Option (Except Exn D))
          simp [i0, i1, i2, m1, m2, m3, m4, m5, k40, k41, k45, k48, k32, n19, n09, nAZ, o3, w0, w1, w2, w3, w4, w5, w6, w7, w8, w9, ha, hm, h6a, h6b, h6n]
      ·
        by_cases h7a : c = 41
        ·
          by_cases h7b : 0 < d
          ·
            have h7q : decide ((0 : Int) < (d : Int)) = true := decide_eq_true (by omega)
            rw [show step _ c = some ⟨.after, d - 1, 0⟩ by simp [step, begin_, afterV, w0, w1, w2, w3, w4, w5, w6, w7, w8, w9, ha, hm, h6a, h7a, h7b, h7q]]
            show _ = (some (Except.ok (.tup [.str "after", .int ((d - 1 : Nat) : Int), .int ((0 : Nat) : Int)])) : Option (Except Exn D))
            simp [i0, i1, i2, m1, m2, m3, m4, m5, k40, k41, k45, k48, k32, n19, n09, nAZ, o3, w0, w1, w2, w3, w4, w5, w6, w7, w8, w9, ha, hm, h6a, h7a, h7b, h7q] <;> omega
          ·
            have h7n : decide ((0 : Int) < (d : Int)) = false := decide_eq_false (by omega)
            rw [show step _ c = none by simp [step, begin_, afterV, w0, w1, w2, w3, w4, w5, w6, w7, w8, w9, ha, hm, h6a, h7a, h7b, h7n]]
            show _ = (some (Except.ok D.non) : Option (Except Exn D))
            simp [i0, i1, i2, m1, m2, m3, m4, m5, k40, k41, k45, k48, k32, n19, n09, nAZ, o3, w0, w1, w2, w3, w4, w5, w6, w7, w8, w9, ha, hm, h6a, h7a, h7b, h7n]
        ·
          rw [show step _ c = none by simp [step, begin_, afterV, w0, w1, w2, w3, w4, w5, w6, w7, w8, w9, ha, hm, h6a, h7a]]
          show _ = (some (Except.ok D.non) : Option (Except Exn D))
          simp [i0, i1, i2, m1, m2, m3, m4, m5, k40, k41, k45, k48, k32, n19, n09, nAZ, o3, w0, w1, w2, w3, w4, w5, w6, w7, w8, w9, ha, hm, h6a, h7a]
  | start =>
    by_cases h41 : c = 41
    ·
      rw [show step _ c = none by simp [step, begin_, afterV, w0, w1, w2, w3, w4, w5, w6, w7, w8, w9, h41]]
      show _ = (some (Except.ok D.non) : Option (Except Exn D))
      simp [i0, i1, i2, m1, m2, m3, m4, m5, k40, k41, k45, k48, k32, n19, n09, nAZ, o3, w0, w1, w2, w3, w4, w5, w6, w7, w8, w9, h41]
    ·
      by_cases h1a : c = 40
      ·
        by_cases h1b : d < 100
        ·
          have h1q : decide ((d : Int) < 100) = true := decide_eq_true (by omega)
          rw [show step _ c = some ⟨.first, d + 1, 0⟩ by simp [step, begin_, afterV, w0, w1, w2, w3, w4, w5, w6, w7, w8, w9, h41, h1a, h1b, h1q]]
          show _ = (some (Except.ok (.tup [.str "first", .int ((d + 1 : Nat) : Int), .int ((0 : Nat) : Int)])) : Option (Except Exn D))
          simp [i0, i1, i2, m1, m2, m3, m4, m5, k40, k41, k45, k48, k32, n19, n09, nAZ, o3, w0, w1, w2, w3, w4, w5, w6, w7, w8, w9, h41, h1a, h1b, h1q]
        ·
          have h1n : decide ((d : Int) < 100) = false := decide_eq_false (by omega)
          rw [show step _ c = none by simp [step, begin_, afterV, w0, w1, w2, w3, w4, w5, w6, w7, w8, w9, h41, h1a, h1b, h1n]]
          show _ = (some (Except.ok D.non) : Option (Except Exn D))
          simp [i0, i1, i2, m1, m2, m3, m4, m5, k40, k41, k45, k48, k32, n19, n09, nAZ, o3, w0, w1, w2, w3, w4, w5, w6, w7, w8, w9, h41, h1a, h1b, h1n]
      ·
        by_cases h2 : c = 45
        ·
          rw [show step _ c = some ⟨.minus, d, 0⟩ by simp [step, begin_, afterV, w0, w1, w2, w3, w4, w5, w6, w7, w8, w9, h41, h1a, h2]]
          show _ = (some (Except.ok (.tup [.str "minus", .int d, .int ((0 : Nat) : Int)])) : Option (Except Exn D))
          simp [i0, i1, i2, m1, m2, m3, m4, m5, k40, k41, k45, k48, k32, n19, n09, nAZ, o3, w0, w1, w2, w3, w4, w5, w6, w7, w8, w9, h41, h1a, h2]
        ·
          by_cases h3 : c = 48
          ·
            rw [show step _ c = some ⟨.zero, d, 0⟩ by simp [step, begin_, afterV, w0, w1, w2, w3, w4, w5, w6, w7, w8, w9, h41, h1a, h2, h3]]
            show _ = (some (Except.ok (.tup [.str "zero", .int d, .int ((0 : Nat) : Int)])) : Option (Except Exn D))
            simp [i0, i1, i2, m1, m2, m3, m4, m5, k40, k41, k45, k48, k32, n19, n09, nAZ, o3, w0, w1, w2, w3, w4, w5, w6, w7, w8, w9, h41, h1a, h2, h3]
          ·
            by_cases h4 : isD c
            ·
              rw [show step _ c = some ⟨.digits, d, 1⟩ by simp [step, begin_, afterV, w0, w1, w2, w3, w4, w5, w6, w7, w8, w9, h41, h1a, h2, h3, h4]]
              show _ = (some (Except.ok (.tup [.str "digits", .int d, .int ((1 : Nat) : Int)])) : Option (Except Exn D))
              simp [i0, i1, i2, m1, m2, m3, m4, m5, k40, k41, k45, k48, k32, n19, n09, nAZ, o3, w0, w1, w2, w3, w4, w5, w6, w7, w8, w9, h41, h1a, h2, h3, h4]
            ·
              by_cases h5 : isL c
              ·
                rw [show step _ c = some ⟨.word, d, 1⟩ by simp [step, begin_, afterV, w0, w1, w2, w3, w4, w5, w6, w7, w8, w9, h41, h1a, h2, h3, h4, h5]]
                show _ = (some (Except.ok (.tup [.str "word", .int d, .int ((1 : Nat) : Int)])) : Option (Except Exn D))
                simp [i0, i1, i2, m1, m2, m3, m4, m5, k40, k41, k45, k48, k32, n19, n09, nAZ, o3, w0, w1, w2, w3, w4, w5, w6, w7, w8, w9, h41, h1a, h2, h3, h4, h5]
              ·
                rw [show step _ c = none by simp [step, begin_, afterV, w0, w1, w2, w3, w4, w5, w6, w7, w8, w9, h41, h1a, h2, h3, h4, h5]]
                show _ = (some (Except.ok D.non) : Option (Except Exn D))
                simp [i0, i1, i2, m1, m2, m3, m4, m5, k40, k41, k45, k48, k32, n19, n09, nAZ, o3, w0, w1, w2, w3, w4, w5, w6, w7, w8, w9, h41, h1a, h2, h3, h4, h5]
  | first =>
    have hd1 := hd rfl
    have e1 : ((d - 1 : Nat) : Int) = (d : Int) - 1 := by omega
    by_cases h : c = 41
    ·
      rw [show step _ c = some ⟨.after, d - 1, 0⟩ by simp [step, begin_, afterV, w0, w1, w2, w3, w4, w5, w6, w7, w8, w9, e1, h]]
      show _ = (some (Except.ok (.tup [.str "after", .int ((d - 1 : Nat) : Int), .int ((0 : Nat) : Int)])) : Option (Except Exn D))
      simp [i0, i1, i2, m1, m2, m3, m4, m5, k40, k41, k45, k48, k32, n19, n09, nAZ, o3, w0, w1, w2, w3, w4, w5, w6, w7, w8, w9, e1, h]
    ·
      by_cases h1a : c = 40
      ·
        by_cases h1b : d < 100
        ·
          have h1q : decide ((d : Int) < 100) = true := decide_eq_true (by omega)
          rw [show step _ c = some ⟨.first, d + 1, 0⟩ by simp [step, begin_, afterV, w0, w1, w2, w3, w4, w5, w6, w7, w8, w9, e1, h, h1a, h1b, h1q]]
          show _ = (some (Except.ok (.tup [.str "first", .int ((d + 1 : Nat) : Int), .int ((0 : Nat) : Int)])) : Option (Except Exn D))
          simp [i0, i1, i2, m1, m2, m3, m4, m5, k40, k41, k45, k48, k32, n19, n09, nAZ, o3, w0, w1, w2, w3, w4, w5, w6, w7, w8, w9, e1, h, h1a, h1b, h1q]
        ·
          have h1n : decide ((d : Int) < 100) = false := decide_eq_false (by omega)
          rw [show step _ c = none by simp [step, begin_, afterV, w0, w1, w2, w3, w4, w5, w6, w7, w8, w9, e1, h, h1a, h1b, h1n]]
          show _ = (some (Except.ok D.non) : Option (Except Exn D))
          simp [i0, i1, i2, m1, m2, m3, m4, m5, k40, k41, k45, k48, k32, n19, n09, nAZ, o3, w0, w1, w2, w3, w4, w5, w6, w7, w8, w9, e1, h, h1a, h1b, h1n]
      ·
        by_cases h2 : c = 45
        ·
          rw [show step _ c = some ⟨.minus, d, 0⟩ by simp [step, begin_, afterV, w0, w1, w2, w3, w4, w5, w6, w7, w8, w9, e1, h, h1a, h2]]
          show _ = (some (Except.ok (.tup [.str "minus", .int d, .int ((0 : Nat) : Int)])) : Option (Except Exn D))
          simp [i0, i1, i2, m1, m2, m3, m4, m5, k40, k41, k45, k48, k32, n19, n09, nAZ, o3, w0, w1, w2, w3, w4, w5, w6, w7, w8, w9, e1, h, h1a, h2]
        ·
          by_cases h3 : c = 48
          ·
            rw [show step _ c = some ⟨.zero, d, 0⟩ by simp [step, begin_, afterV, w0, w1, w2, w3, w4, w5, w6, w7, w8, w9, e1, h, h1a, h2, h3]]
            show _ = (some (Except.ok (.tup [.str "zero", .int d, .int ((0 : Nat) : Int)])) : Option (Except Exn D))
            simp [i0, i1, i2, m1, m2, m3, m4, m5, k40, k41, k45, k48, k32, n19, n09, nAZ, o3, w0, w1, w2, w3, w4, w5, w6, w7, w8, w9, e1, h, h1a, h2, h3]
          ·
            by_cases h4 : isD c
            ·
              rw [show step _ c = some ⟨.digits, d, 1⟩ by simp [step, begin_, afterV, w0, w1, w2, w3, w4, w5, w6, w7, w8, w9, e1, h, h1a, h2, h3, h4]]
              show _ = (some (Except.ok (.tup [.str "digits", .int d, .int ((1 : Nat) : Int)])) : Option (Except Exn D))
              simp [i0, i1, i2, m1, m2, m3, m4, m5, k40, k41, k45, k48, k32, n19, n09, nAZ, o3, w0, w1, w2, w3, w4, w5, w6, w7, w8, w9, e1, h, h1a, h2, h3, h4]
            ·
              by_cases h5 : isL c
              ·
                rw [show step _ c = some ⟨.word, d, 1⟩ by simp [step, begin_, afterV, w0, w1, w2, w3, w4, w5, w6, w7, w8, w9, e1, h, h1a, h2, h3, h4, h5]]
                show _ = (some (Except.ok (.tup [.str "word", .int d, .int ((1 : Nat) : Int)])) : Option (Except Exn D))
                simp [i0, i1, i2, m1, m2, m3, m4, m5, k40, k41, k45, k48, k32, n19, n09, nAZ, o3, w0, w1, w2, w3, w4, w5, w6, w7, w8, w9, e1, h, h1a, h2, h3, h4, h5]
              ·
                rw [show step _ c = none by simp [step, begin_, afterV, w0, w1, w2, w3, w4, w5, w6, w7, w8, w9, e1, h, h1a, h2, h3, h4, h5]]
                show _ = (some (Except.ok D.non) : Option (Except Exn D))
                simp [i0, i1, i2, m1, m2, m3, m4, m5, k40, k41, k45, k48, k32, n19, n09, nAZ, o3, w0, w1, w2, w3, w4, w5, w6, w7, w8, w9, e1, h, h1a, h2, h3, h4, h5]
end LK
set_option Elab.async false
set_option linter.all false
set_option maxRecDepth 100000
set_option maxHeartbeats 4000000
namespace LK
open PySem PySem.Spec PyProof.Rows L2 DL
/-! ### the automaton on lists of signs -/
def fin (m : Mo) : Bool := match m with
  | .word | .digits | .zero | .after => true
  | _ => false
def dueF : AS → List Nat → Nat → Option Nat
  | a, [], k => if a.d = 0 ∧ fin a.m = true then none else some k
  | a, c :: cs, k => match step a c with
    | none => some k
    | some b => dueF b cs (k + 1)
def aft (d c : Nat) : Option AS := if c = 32 ∧ 0 < d then some ⟨.start, d, 0⟩ else if c = 41 ∧ 0 < d then some ⟨.after, d - 1, 0⟩ else none
def tailF (d : Nat) : List Nat → Nat → Option Nat
  | [], k => if d = 0 then none else some k
  | c :: cs, k => match aft d c with
    | none => some k
    | some b => dueF b cs (k + 1)
theorem dueF_ends {a : AS} {l : List Nat} {k : Nat} (h1 : fin a.m = true) (h2 : ∀ c cs, l = c :: cs → step a c = aft a.d c) : dueF a l k = tailF a.d l k := by
  cases l with
  | nil => simp [dueF, tailF, h1]
  | cons c cs => simp [dueF, tailF, h2 c cs rfl]
def span (p : Nat → Prop) [DecidablePred p] : Nat → List Nat → Nat
  | 0, _ => 0
  | _ + 1, [] => 0
  | n + 1, c :: cs => if p c then span p n cs + 1 else 0
section
variable {p : Nat → Prop} [DecidablePred p]
theorem span_le : ∀ (n : Nat) (l : List Nat), span p n l ≤ n ∧ span p n l ≤ l.length
  | 0, l => ⟨Nat.le_refl _, Nat.zero_le _⟩
  | n + 1, [] => ⟨Nat.zero_le _, Nat.le_refl _⟩
  | n + 1, c :: cs => by
    have := span_le n cs
    unfold span
    split <;> simp <;> omega
theorem span_all : ∀ (n : Nat) (l : List Nat), ∀ c ∈ l.take (span p n l), p c
  | 0, l, c, h => by simp [span] at h
  | n + 1, [], c, h => by simp [span] at h
  | n + 1, x :: cs, c, h => by
    unfold span at h
    split at h
    · rename_i hx
      rw [List.take_succ_cons] at h
      rcases List.mem_cons.mp h with e | e
      · rw [e]; exact hx
      · exact span_all n cs c e
    · simp at h
end
theorem due_digits (d : Nat) : ∀ (n r : Nat) (l : List Nat) (k : Nat), r + n = 200 → dueF ⟨.digits, d, r⟩ l k = tailF d (l.drop (span isD n l)) (k + span isD n l)
  | 0, r, l, k, h => by
    rw [dueF_ends rfl (fun c cs e => by
      have : r = 200 := by omega
      subst this
      simp [step]
      rfl)]
    simp [span]
  | n + 1, r, [], k, h => by rw [dueF_ends rfl (fun c cs e => by cases e)]; simp [span]
  | n + 1, r, c :: cs, k, h => by
    by_cases hc : isD c
    · have e : step ⟨.digits, d, r⟩ c = some ⟨.digits, d, r + 1⟩ := by
        have : r < 200 := by omega
        simp [step, this, hc]
      have ih := due_digits d n (r + 1) cs (k + 1) (by omega)
      unfold dueF
      rw [e]
      simp only
      rw [ih]
      simp only [span, hc, if_true, List.drop_succ_cons]
      congr 1
      omega
    · rw [dueF_ends rfl (fun c' cs' e => by cases e; simp [step, hc]; rfl)]
      simp [span, hc]
theorem due_word (d : Nat) : ∀ (n r : Nat) (l : List Nat) (k : Nat), r + n = 20 → dueF ⟨.word, d, r⟩ l k = tailF d (l.drop (span isL n l)) (k + span isL n l)
  | 0, r, l, k, h => by
    rw [dueF_ends rfl (fun c cs e => by
      have : r = 20 := by omega
      subst this
      simp [step]
      rfl)]
    simp [span]
  | n + 1, r, [], k, h => by rw [dueF_ends rfl (fun c cs e => by cases e)]; simp [span]
  | n + 1, r, c :: cs, k, h => by
    by_cases hc : isL c
    · have e : step ⟨.word, d, r⟩ c = some ⟨.word, d, r + 1⟩ := by
        have : r < 20 := by omega
        simp [step, this, hc]
      have ih := due_word d n (r + 1) cs (k + 1) (by omega)
      unfold dueF
      rw [e]
      simp only
      rw [ih]
      simp only [span, hc, if_true, List.drop_succ_cons]
      congr 1
      omega
    · rw [dueF_ends rfl (fun c' cs' e => by cases e; simp [step, hc]; rfl)]
      simp [span, hc]
theorem due_zero (d : Nat) (l : List Nat) (k : Nat) : dueF ⟨.zero, d, 0⟩ l k = tailF d l k := dueF_ends rfl fun _ _ _ => rfl
theorem due_after (d : Nat) (l : List Nat) (k : Nat) : dueF ⟨.after, d, 0⟩ l k = tailF d l k := dueF_ends rfl fun _ _ _ => rfl
/-- the first mode, not followed by its bracket -/
theorem due_first (d : Nat) (l : List Nat) (k : Nat) (h : ∀ c cs, l = c :: cs → c ≠ 41) : dueF ⟨.first, d, 0⟩ l k = dueF ⟨.start, d, 0⟩ l k := by
  cases l with
  | nil => simp [dueF, fin]
  | cons c cs =>
    have : step ⟨.first, d, 0⟩ c = step ⟨.start, d, 0⟩ c := by simp [step, h c cs rfl]; rfl
    simp [dueF, this]
/-! ### numbers -/
theorem numL_back : ∀ (n : Nat) (cs : List Nat), cs.length = n → NumText.AllDigits cs → (∃ c r, cs = c :: r ∧ c ≠ 48) → TL.numL (NumText.digitsVal cs) = cs ∧ 1 ≤ NumText.digitsVal cs := by
  intro n
  induction n with
  | zero => rintro cs hl _ ⟨c, r, rfl, _⟩; simp at hl
  | succ n ih =>
    intro cs hl hd ⟨c, r, hc, h48⟩
    obtain ⟨ini, x, rfl⟩ : ∃ ini x, cs = ini ++ [x] := ⟨cs.dropLast, cs.getLast (by intro e; rw [e] at hc; cases hc), (List.dropLast_concat_getLast _).symm⟩
    have hx := hd x (by simp)
    have ev : NumText.digitsVal (ini ++ [x]) = NumText.digitsVal ini * 10 + (x - 48) := by
      unfold NumText.digitsVal
      rw [List.foldl_append]
      rfl
    rw [ev]
    cases ini with
    | nil =>
      have hxc : x = c := by simpa using (congrArg List.head? hc)
      subst hxc
      have e0 : NumText.digitsVal [] = 0 := rfl
      rw [e0, TL.numL_lt (by omega)]
      refine ⟨?_, by omega⟩
      show [48 + (0 * 10 + (x - 48))] = [x]
      congr 1
      omega
    | cons y ys =>
      have hyc : y = c := by simpa using (congrArg List.head? hc)
      obtain ⟨h1, h2⟩ := ih (y :: ys) (by simpa using hl) (fun z hz => hd z (List.mem_append_left _ hz)) ⟨y, ys, rfl, by rw [hyc]; exact h48⟩
      generalize NumText.digitsVal (y :: ys) = V at *
      rw [TL.numL_step (by omega), show (V * 10 + (x - 48)) / 10 = V by omega, h1, show (V * 10 + (x - 48)) % 10 = x - 48 by omega]
      refine ⟨?_, by omega⟩
      rw [show 48 + (x - 48) = x by omega]
theorem val_lt : ∀ (cs : List Nat), NumText.AllDigits cs → NumText.digitsVal cs < 10 ^ cs.length := by
  have key : ∀ (cs : List Nat) (a : Nat), NumText.AllDigits cs → cs.foldl (fun acc c => acc * 10 + (c - 48)) a < (a + 1) * 10 ^ cs.length := by
    intro cs
    induction cs with
    | nil => intro a _; simp
    | cons c cs ih =>
      intro a h
      have hc := h.head
      have := ih (a * 10 + (c - 48)) h.tail
      rw [List.foldl_cons]
      refine Nat.lt_of_lt_of_le this ?_
      rw [List.length_cons, Nat.pow_succ, Nat.mul_comm (10 ^ cs.length) 10, ← Nat.mul_assoc]
      exact Nat.mul_le_mul_right _ (by omega)
  intro cs h
  have := key cs 0 h
  simpa [NumText.digitsVal] using this
/-- a number's signs: a sign, then digits -/
theorem num_cases (i : Int) : (∃ n : Nat, i = n ∧ num i = TL.numL n) ∨ ∃ n : Nat, 1 ≤ n ∧ i = -(n : Int) ∧ num i = 45 :: TL.numL n := by
  by_cases h : 0 ≤ i
  · obtain ⟨n, rfl⟩ := Int.eq_ofNat_of_zero_le h
    exact .inl ⟨n, rfl, num_nat n⟩
  · obtain ⟨n, hn⟩ := Int.eq_ofNat_of_zero_le (show 0 ≤ -i by omega)
    refine .inr ⟨n, by omega, by omega, ?_⟩
    rw [show i = -(n : Int) by omega, num_neg n (by omega)]
theorem numL_lead (n : Nat) (h : 1 ≤ n) : ∃ c r, TL.numL n = c :: r ∧ isD c ∧ c ≠ 48 := by
  induction n using Nat.strongRecOn with
  | _ n ih =>
    by_cases hn : n < 10
    · exact ⟨48 + n, [], TL.numL_lt hn, ⟨by omega, by omega⟩, by omega⟩
    · obtain ⟨c, r, e, h1, h2⟩ := ih (n / 10) (by omega) (by omega)
      exact ⟨c, r ++ [48 + n % 10], by rw [TL.numL_step (by omega), e]; rfl, h1, h2⟩
theorem numL_zero : TL.numL 0 = [48] := TL.numL_lt (by decide)
theorem num_inj {i j : Int} (h : num i = num j) : i = j := by
  have nh : ∀ m n : Nat, TL.numL m ≠ 45 :: TL.numL n := fun m n e => by
    have := TL.numL_digits m 45 (by rw [e]; exact List.mem_cons_self)
    omega
  rcases num_cases i with ⟨m, rfl, e⟩ | ⟨m, hm, rfl, e⟩ <;> rcases num_cases j with ⟨n, rfl, f⟩ | ⟨n, hn, rfl, f⟩ <;> rw [e, f] at h
  · rw [TL.numL_inj h]
  · exact absurd h (nh _ _)
  · exact absurd h.symm (nh _ _)
  · injection h with _ h
    rw [TL.numL_inj h]
/-! ### written forms are told apart -/
/-- what may follow a token -/
def Lim (r : List Nat) : Prop := ∀ c cs, r = c :: cs → c = 32 ∨ c = 41
theorem lim_nil : Lim [] := fun _ _ e => by cases e
theorem lim_32 (r : List Nat) : Lim (32 :: r) := fun _ _ e => by cases e; exact .inl rfl
theorem lim_41 (r : List Nat) : Lim (41 :: r) := fun _ _ e => by cases e; exact .inr rfl
theorem token_split : ∀ (a b r s : List Nat), (∀ c ∈ a, c ≠ 32 ∧ c ≠ 41) → (∀ c ∈ b, c ≠ 32 ∧ c ≠ 41) → Lim r → Lim s → a ++ r = b ++ s → a = b ∧ r = s
  | [], [], r, s, _, _, _, _, h => ⟨rfl, h⟩
  | [], c :: b, r, s, _, hb, hr, _, h => by
    have := hr c (b ++ s) h
    have := hb c List.mem_cons_self
    omega
  | c :: a, [], r, s, ha, _, _, hs, h => by
    have := hs c (a ++ r) h.symm
    have := ha c List.mem_cons_self
    omega
  | c :: a, d :: b, r, s, ha, hb, hr, hs, h => by
    injection h with h1 h2
    obtain ⟨e1, e2⟩ := token_split a b r s (fun x hx => ha x (List.mem_cons_of_mem _ hx)) (fun x hx => hb x (List.mem_cons_of_mem _ hx)) hr hs h2
    exact ⟨by rw [h1, e1], e2⟩
theorem num_signs (i : Int) : ∀ c ∈ num i, c = 45 ∨ isD c := fun c hc => by
  rcases num_cases i with ⟨n, _, e⟩ | ⟨n, _, _, e⟩ <;> rw [e] at hc
  · exact .inr (TL.numL_digits n c hc)
  · rcases List.mem_cons.mp hc with q | q
    · exact .inl q
    · exact .inr (TL.numL_digits n c q)
theorem S_inj {a b : Str} (h : a.cps.toList = b.cps.toList) : a = b := by rw [← S_tl a, ← S_tl b, h]
theorem wr_head : ∀ (n : Nat) (d : D), Good n d → ∃ c r, wr d = c :: r ∧ c ≠ 32 ∧ c ≠ 41 := fun n d h => by
  cases d with
  | int i =>
    have h1 := num_pos i
    have h2 := num_signs i
    show ∃ c r, num i = c :: r ∧ _
    cases e : num i with
    | nil => rw [e] at h1; simp at h1
    | cons c r =>
      have := h2 c (by rw [e]; exact List.mem_cons_self)
      unfold isD at this
      exact ⟨c, r, rfl, by omega, by omega⟩
  | str z =>
    have hz : 1 ≤ z.cps.toList.length ∧ z.cps.toList.length ≤ 20 ∧ ∀ c ∈ z.cps.toList, 97 ≤ c ∧ c ≤ 122 := by cases n <;> exact h
    show ∃ c r, z.cps.toList = c :: r ∧ _
    cases e : z.cps.toList with
    | nil => rw [e] at hz; simp at hz
    | cons c r =>
      have := hz.2.2 c (by rw [e]; exact List.mem_cons_self)
      exact ⟨c, r, rfl, by omega, by omega⟩
  | tup ds => exact ⟨40, _, rfl, by decide, by decide⟩
  | _ => cases n <;> exact h.elim
theorem good_int {n : Nat} {i : Int} (h : Good n (.int i)) : i.natAbs < 10 ^ 200 := by cases n <;> exact h
theorem good_str {n : Nat} {z : Str} (h : Good n (.str z)) : 1 ≤ z.cps.toList.length ∧ z.cps.toList.length ≤ 20 ∧ ∀ c ∈ z.cps.toList, 97 ≤ c ∧ c ≤ 122 := by cases n <;> exact h
theorem wr_inj : ∀ (n m : Nat) (d e : D) (r s : List Nat), Good n d → Good m e → Lim r → Lim s → wr d ++ r = wr e ++ s → d = e ∧ r = s := by
  intro n
  induction n with
  | zero =>
    intro m d e r s hd he hr hs h
    cases d with
    | int i =>
      cases e with
      | int j =>
        obtain ⟨h1, h2⟩ := token_split (num i) (num j) r s (fun c hc => by have := num_signs i c hc; unfold isD at this; omega) (fun c hc => by have := num_signs j c hc; unfold isD at this; omega) hr hs h
        rw [num_inj h1]; exact ⟨rfl, h2⟩
      | str z =>
        have hz := good_str he
        obtain ⟨h1, h2⟩ := token_split (num i) z.cps.toList r s (fun c hc => by have := num_signs i c hc; unfold isD at this; omega) (fun c hc => by have := hz.2.2 c hc; omega) hr hs h
        obtain ⟨c, t, e1, _⟩ := wr_head m _ he
        have e1 : z.cps.toList = c :: t := e1
        have q1 := num_signs i c (by rw [h1, e1]; exact List.mem_cons_self)
        have q2 := hz.2.2 c (by rw [e1]; exact List.mem_cons_self)
        unfold isD at q1
        omega
      | tup ds =>
        exfalso
        obtain ⟨c, t, e1, _⟩ := wr_head 0 _ hd
        have h : (wr (.int i)) ++ r = 40 :: (TL.joinL [32] (wrL ds) ++ [41]) ++ s := h
        rw [e1] at h
        injection h with q _
        have := num_signs i c (by rw [show num i = c :: t from e1]; exact List.mem_cons_self)
        unfold isD at this
        omega
      | _ => cases m <;> exact he.elim
    | str z =>
      have hz := good_str hd
      cases e with
      | int j =>
        obtain ⟨h1, h2⟩ := token_split z.cps.toList (num j) r s (fun c hc => by have := hz.2.2 c hc; omega) (fun c hc => by have := num_signs j c hc; unfold isD at this; omega) hr hs h
        obtain ⟨c, t, e1, _⟩ := wr_head 0 _ hd
        have e1 : z.cps.toList = c :: t := e1
        have q1 := num_signs j c (by rw [← h1, e1]; exact List.mem_cons_self)
        have q2 := hz.2.2 c (by rw [e1]; exact List.mem_cons_self)
        unfold isD at q1
        omega
      | str y =>
        have hy := good_str he
        obtain ⟨h1, h2⟩ := token_split z.cps.toList y.cps.toList r s (fun c hc => by have := hz.2.2 c hc; omega) (fun c hc => by have := hy.2.2 c hc; omega) hr hs h
        exact ⟨by rw [S_inj h1], h2⟩
      | tup ds =>
        exfalso
        obtain ⟨c, t, e1, _⟩ := wr_head 0 _ hd
        have h : (wr (.str z)) ++ r = 40 :: (TL.joinL [32] (wrL ds) ++ [41]) ++ s := h
        rw [e1] at h
        injection h with q _
        have := hz.2.2 c (by rw [show z.cps.toList = c :: t from e1]; exact List.mem_cons_self)
        omega
      | _ => cases m <;> exact he.elim
    | _ => exact hd.elim
  | succ n ih =>
    intro m d e r s hd he hr hs h
    cases d with
    | tup ds =>
      cases e with
      | tup es =>
        cases m with
        | zero => exact he.elim
        | succ m =>
          have key : ∀ (ds es : List D), (∀ d ∈ ds, Good n d) → (∀ e ∈ es, Good m e) → TL.joinL [32] (wrL ds) ++ 41 :: r = TL.joinL [32] (wrL es) ++ 41 :: s → ds = es ∧ r = s := by
            intro ds
            induction ds with
            | nil =>
              intro es _ he h
              cases es with
              | nil => injection h with _ h; exact ⟨rfl, h⟩
              | cons e es =>
                exfalso
                obtain ⟨c, t, e1, _, h41⟩ := wr_head m e (he e List.mem_cons_self)
                cases es with
                | nil =>
                  have h : 41 :: r = wr e ++ 41 :: s := h
                  rw [e1] at h
                  injection h with q _
                  omega
                | cons f es =>
                  have h : 41 :: r = wr e ++ ([32] ++ TL.joinL [32] (wrL (f :: es))) ++ 41 :: s := h
                  rw [e1] at h
                  injection h with q _
                  omega
            | cons d ds ihd =>
              intro es hd he h
              cases es with
              | nil =>
                exfalso
                obtain ⟨c, t, e1, _, h41⟩ := wr_head n d (hd d List.mem_cons_self)
                cases ds with
                | nil =>
                  have h : wr d ++ 41 :: r = 41 :: s := h
                  rw [e1] at h
                  injection h with q _
                  omega
                | cons f ds =>
                  have h : wr d ++ ([32] ++ TL.joinL [32] (wrL (f :: ds))) ++ 41 :: r = 41 :: s := h
                  rw [e1] at h
                  injection h with q _
                  omega
              | cons e es =>
                have gd := hd d List.mem_cons_self
                have ge := he e List.mem_cons_self
                cases ds with
                | nil =>
                  cases es with
                  | nil =>
                    have h : wr d ++ 41 :: r = wr e ++ 41 :: s := h
                    obtain ⟨h1, h2⟩ := ih m d e _ _ gd ge (lim_41 _) (lim_41 _) h
                    injection h2 with _ h2
                    exact ⟨by rw [h1], h2⟩
                  | cons f es =>
                    have h : wr d ++ 41 :: r = wr e ++ ([32] ++ TL.joinL [32] (wrL (f :: es))) ++ 41 :: s := h
                    simp only [List.append_assoc] at h
                    obtain ⟨h1, h2⟩ := ih m d e _ _ gd ge (lim_41 _) (lim_32 _) h
                    injection h2 with h2 _
                    cases h2
                | cons f ds =>
                  cases es with
                  | nil =>
                    have h : wr d ++ ([32] ++ TL.joinL [32] (wrL (f :: ds))) ++ 41 :: r = wr e ++ 41 :: s := h
                    simp only [List.append_assoc] at h
                    obtain ⟨h1, h2⟩ := ih m d e _ _ gd ge (lim_32 _) (lim_41 _) h
                    injection h2 with h2 _
                    cases h2
                  | cons g es =>
                    have h : wr d ++ ([32] ++ TL.joinL [32] (wrL (f :: ds))) ++ 41 :: r = wr e ++ ([32] ++ TL.joinL [32] (wrL (g :: es))) ++ 41 :: s := h
                    simp only [List.append_assoc] at h
                    obtain ⟨h1, h2⟩ := ih m d e _ _ gd ge (lim_32 _) (lim_32 _) h
                    injection h2 with _ h2
                    obtain ⟨h3, h4⟩ := ihd (g :: es) (fun z hz => hd z (List.mem_cons_of_mem _ hz)) (fun z hz => he z (List.mem_cons_of_mem _ hz)) h2
                    exact ⟨by rw [h1, h3], h4⟩
          have h : 40 :: (TL.joinL [32] (wrL ds) ++ [41]) ++ r = 40 :: (TL.joinL [32] (wrL es) ++ [41]) ++ s := h
          rw [List.cons_append, List.cons_append] at h
          injection h with _ h
          rw [List.append_assoc, List.append_assoc] at h
          obtain ⟨h1, h2⟩ := key ds es hd he h
          exact ⟨by rw [h1], h2⟩
      | int j =>
        exfalso
        obtain ⟨c, t, e1, _⟩ := wr_head m _ he
        have h : 40 :: (TL.joinL [32] (wrL ds) ++ [41]) ++ r = wr (.int j) ++ s := h
        rw [e1] at h
        injection h with q _
        have := num_signs j c (by rw [show num j = c :: t from e1]; exact List.mem_cons_self)
        unfold isD at this
        omega
      | str z =>
        exfalso
        have hz := good_str he
        obtain ⟨c, t, e1, _⟩ := wr_head m _ he
        have h : 40 :: (TL.joinL [32] (wrL ds) ++ [41]) ++ r = wr (.str z) ++ s := h
        rw [e1] at h
        injection h with q _
        have := hz.2.2 c (by rw [show z.cps.toList = c :: t from e1]; exact List.mem_cons_self)
        omega
      | _ => cases m <;> exact he.elim
    | int i => exact ih m (.int i) e r s (by have := good_int hd; cases n <;> exact this) he hr hs h
    | str z => exact ih m (.str z) e r s (by have := good_str hd; cases n <;> exact this) he hr hs h
    | _ => exact hd.elim
/-! ### written forms are let by -/
theorem span_lim {p : Nat → Prop} [DecidablePred p] (h32 : ¬ p 32) (h41 : ¬ p 41) : ∀ (n : Nat) (a r : List Nat), (∀ c ∈ a, p c) → Lim r → a.length ≤ n → span p n (a ++ r) = a.length
  | 0, [], r, _, _, _ => rfl
  | n + 1, [], r, _, hr, _ => by
    cases r with
    | nil => rfl
    | cons c r =>
      rcases hr c r rfl with rfl | rfl
      · simp [span, h32]
      · simp [span, h41]
  | n + 1, c :: a, r, h, hr, hl => by
    have := span_lim h32 h41 n a r (fun x hx => h x (List.mem_cons_of_mem _ hx)) hr (by simpa using hl)
    simp [span, h c List.mem_cons_self, this]
theorem step_digit {d c : Nat} (h : isD c) (h2 : c ≠ 48) : step ⟨.start, d, 0⟩ c = some ⟨.digits, d, 1⟩ := by
  have h' := h
  unfold isD at h'
  simp [step, begin_, show c ≠ 40 by omega, show c ≠ 45 by omega, h2, h]
theorem step_word {d c : Nat} (h : isL c) : step ⟨.start, d, 0⟩ c = some ⟨.word, d, 1⟩ := by
  have h' := h
  unfold isL at h'
  have : ¬ isD c := by unfold isD; omega
  simp [step, begin_, show c ≠ 40 by omega, show c ≠ 45 by omega, show c ≠ 48 by omega, this, h]
theorem step_minus {d : Nat} : step ⟨.start, d, 0⟩ 45 = some ⟨.minus, d, 0⟩ := by simp [step, begin_]
theorem step_zero {d : Nat} : step ⟨.start, d, 0⟩ 48 = some ⟨.zero, d, 0⟩ := by simp [step, begin_]
theorem step_open {d : Nat} (h : d < 100) : step ⟨.start, d, 0⟩ 40 = some ⟨.first, d + 1, 0⟩ := by simp [step, begin_, h]
theorem step_neg {d c : Nat} (h : isD c) (h2 : c ≠ 48) : step ⟨.minus, d, 0⟩ c = some ⟨.digits, d, 1⟩ := by simp [step, h, h2]
theorem num_len {n : Nat} (h : n < 10 ^ 200) : (TL.numL n).length ≤ 200 := TL.numL_len (by decide) h
theorem due_wr : ∀ (n : Nat) (v : D) (d : Nat) (r : List Nat) (k : Nat), Good n v → n + d ≤ 100 → Lim r → dueF ⟨.start, d, 0⟩ (wr v ++ r) k = tailF d r (k + (wr v).length) := by
  have tok : ∀ (m : Nat) (v : D) (d : Nat) (r : List Nat) (k : Nat), Good m v → (∀ ds, v ≠ .tup ds) → Lim r → dueF ⟨.start, d, 0⟩ (wr v ++ r) k = tailF d r (k + (wr v).length) := by
    intro m v d r k h ht hr
    cases v with
    | int i =>
      have hi := good_int h
      show dueF _ (num i ++ r) k = tailF d r (k + (num i).length)
      have digs : ∀ (st : AS) (n k : Nat), 1 ≤ n → n < 10 ^ 200 → (∀ c, isD c → c ≠ 48 → step st c = some ⟨.digits, d, 1⟩) → dueF st (TL.numL n ++ r) k = tailF d r (k + (TL.numL n).length) := by
        intro st n k h1 h2 h3
        obtain ⟨c, t, e, hc, h48⟩ := numL_lead n h1
        have hl := num_len h2
        have hd := TL.numL_digits n
        rw [e] at hl hd ⊢
        rw [List.cons_append]
        unfold dueF
        rw [h3 c hc h48]
        simp only
        rw [due_digits d 199 1 (t ++ r) (k + 1) rfl, span_lim (p := isD) (by decide) (by decide) 199 t r (fun x hx => hd x (List.mem_cons_of_mem _ hx)) hr (by simp at hl; omega), List.drop_left]
        congr 1
        simp
        omega
      rcases num_cases i with ⟨n, e0, e⟩ | ⟨n, hn, e0, e⟩ <;> rw [e]
      · by_cases hz : n = 0
        · subst hz
          rw [numL_zero]
          show dueF _ (48 :: r) k = _
          unfold dueF
          rw [step_zero]
          simp only
          rw [due_zero]
          rfl
        · exact digs _ n k (by omega) (by omega) fun c => step_digit
      · rw [List.cons_append]
        unfold dueF
        rw [step_minus]
        simp only
        rw [digs ⟨.minus, d, 0⟩ n (k + 1) hn (by omega) fun c => step_neg]
        congr 1
        simp
        omega
    | str z =>
      obtain ⟨h1, h2, h3⟩ := good_str h
      show dueF _ (z.cps.toList ++ r) k = tailF d r (k + z.cps.toList.length)
      generalize z.cps.toList = l at *
      cases l with
      | nil => simp at h1
      | cons c t =>
        rw [List.cons_append]
        unfold dueF
        rw [step_word (h3 c List.mem_cons_self)]
        simp only
        rw [due_word d 19 1 (t ++ r) (k + 1) rfl, span_lim (p := isL) (by decide) (by decide) 19 t r (fun x hx => h3 x (List.mem_cons_of_mem _ hx)) hr (by simp at h2; omega), List.drop_left]
        congr 1
        simp
        omega
    | tup ds => exact absurd rfl (ht ds)
    | _ => cases m <;> exact h.elim
  intro n
  induction n with
  | zero =>
    intro v d r k h _ hr
    exact tok 0 v d r k h (fun ds e => by subst e; exact h.elim) hr
  | succ n ih =>
    intro v d r k h hn hr
    cases v with
    | tup ds =>
      show dueF _ (40 :: (TL.joinL [32] (wrL ds) ++ [41]) ++ r) k = tailF d r (k + (40 :: (TL.joinL [32] (wrL ds) ++ [41])).length)
      rw [List.cons_append]
      unfold dueF
      rw [step_open (by omega)]
      simp only
      rw [List.append_assoc, List.singleton_append]
      have t41 : ∀ j, tailF (d + 1) (41 :: r) j = tailF d r (j + 1) := fun j => by
        show (match aft (d + 1) 41 with | none => some j | some b => dueF b r (j + 1)) = _
        rw [show aft (d + 1) 41 = some ⟨.after, d, 0⟩ by simp [aft]]
        exact due_after d r (j + 1)
      have items : ∀ (ds : List D) (k : Nat), ds ≠ [] → (∀ x ∈ ds, Good n x) → dueF ⟨.start, d + 1, 0⟩ (TL.joinL [32] (wrL ds) ++ 41 :: r) k = tailF d r (k + (TL.joinL [32] (wrL ds)).length + 1) := by
        intro ds
        induction ds with
        | nil => intro k q _; exact absurd rfl q
        | cons x ds ihd =>
          intro k _ hg
          cases ds with
          | nil =>
            show dueF _ (wr x ++ 41 :: r) k = tailF d r (k + (wr x).length + 1)
            rw [ih x (d + 1) (41 :: r) k (hg x List.mem_cons_self) (by omega) (lim_41 _), t41]
          | cons y ds =>
            show dueF _ (wr x ++ ([32] ++ TL.joinL [32] (wrL (y :: ds))) ++ 41 :: r) k = tailF d r (k + (wr x ++ ([32] ++ TL.joinL [32] (wrL (y :: ds)))).length + 1)
            rw [List.append_assoc, List.append_assoc, List.singleton_append, List.cons_append, ih x (d + 1) _ k (hg x List.mem_cons_self) (by omega) (lim_32 _)]
            show (match aft (d + 1) 32 with | none => some (k + (wr x).length) | some b => dueF b (TL.joinL [32] (wrL (y :: ds)) ++ 41 :: r) (k + (wr x).length + 1)) = _
            rw [show aft (d + 1) 32 = some ⟨.start, d + 1, 0⟩ by simp [aft]]
            simp only
            rw [ihd (k + (wr x).length + 1) (by simp) (fun z hz => hg z (List.mem_cons_of_mem _ hz))]
            congr 1
            simp
            omega
      cases ds with
      | nil =>
        show dueF ⟨.first, d + 1, 0⟩ (41 :: r) (k + 1) = _
        unfold dueF
        rw [show step ⟨.first, d + 1, 0⟩ 41 = some ⟨.after, d, 0⟩ by simp [step]]
        simp only
        rw [due_after]
        rfl
      | cons x ds =>
        obtain ⟨c, t, e1, _, h41⟩ := wr_head n x (h x List.mem_cons_self)
        have e2 : ∃ t', TL.joinL [32] (wrL (x :: ds)) ++ 41 :: r = c :: t' := by
          cases ds with
          | nil => exact ⟨_, by show wr x ++ 41 :: r = _; rw [e1]; rfl⟩
          | cons y ds => exact ⟨_, by show wr x ++ ([32] ++ TL.joinL [32] (wrL (y :: ds))) ++ 41 :: r = _; rw [e1]; rfl⟩
        obtain ⟨t', e2⟩ := e2
        rw [due_first _ _ _ (fun c' cs' q => by rw [e2] at q; cases q; exact h41), items (x :: ds) (k + 1) (by simp) h]
        congr 1
        simp
        omega
    | int i => exact tok (n + 1) (.int i) d r k h (fun _ e => by cases e) hr
    | str z => exact tok (n + 1) (.str z) d r k h (fun _ e => by cases e) hr
    | _ => exact h.elim
end LK
set_option Elab.async false
set_option linter.all false
set_option maxRecDepth 100000
set_option maxHeartbeats 4000000
namespace LK
open PySem PySem.Spec PyProof.Rows L2 DL
/-! ### rules of texts -/
@[simp] theorem sAug_e (j : Nat) (g : Mem → D → D → Option D) (f : EE) (sd : Sl) (μ : Mem) : sAug j g f sd μ = match sd[j]? with
  | some (some x) => (match f sd μ with
    | none => none
    | some (.error e, μ1) => some (.exc e, sd, μ1)
    | some (.ok y, μ1) => match g μ1 x y with
      | some (.new _) => none
      | some d => some (.nx, sd.set j (some d), μ1)
      | none => none)
  | _ => none := by
  unfold sAug bS
  rcases sd[j]? with _ | _ | x <;> try rfl
  all_goals (dsimp only; rcases f sd μ with _ | ⟨_ | y, m⟩ <;> rfl)
@[simp] theorem sRaise_e (x : Str) (fs : List Str) (ga : EA) (sd : Sl) (μ : Mem) : sRaise x fs ga sd μ = match ga sd μ with
  | none => none
  | some (.error e, μ1) => some (.exc e, sd, μ1)
  | some (.ok ds, μ1) => if ds.length = fs.length ∧ ds.length ≤ 1000 ∧ plainL ds = true then some (.exc ⟨x, (fs.zip ds).reverse⟩, sd, μ1) else none := rfl
@[simp] theorem addI_int (μ : Mem) (i j : Int) : gAddI μ (.int i) (.int j) = some (.int (i + j)) := rfl
@[simp] theorem min_int (μ : Mem) (i j : Int) : gMin2 μ [.int i, .int j] = some (.int (if j < i then j else i)) := rfl
theorem cps_S (t : List Nat) : (S t).cps.toList = t := rfl
theorem szS {t : List Nat} (hl : t.length ≤ 100000) : (S t).length ≤ sizeLine := by rw [S_len]; exact le_size hl
theorem ixS {μ : Mem} {t : List Nat} {k c : Nat} (h : t[k]? = some c) (hl : t.length ≤ 100000) : gIx μ (.str (S t)) (.int k) = some (.str ⟨#[c]⟩) := by
  obtain ⟨hk, e⟩ := List.getElem?_eq_some_iff.mp h
  show (if (S t).length ≤ sizeLine then (L2.atI (S t).cps.toList (k : Int)).map fun c => D.str ⟨#[c]⟩ else none) = _
  rw [if_pos (szS hl), cps_S, atI_nat t k hk, e]
  rfl
theorem lenS {μ : Mem} {t : List Nat} (hl : t.length ≤ 100000) : gLen μ [.str (S t)] = some (.int t.length) := by
  show (if (S t).length ≤ sizeLine then some (D.int (S t).length) else none) = _
  rw [if_pos (szS hl), S_len]
theorem slS {μ : Mem} {t : List Nat} {i j : Nat} (hl : t.length ≤ 100000) (hi : i ≤ t.length) (hj : j ≤ t.length) : gSl μ (.str (S t)) (some (i : Int)) (some (j : Int)) = some (.str (S ((t.drop i).take (j - i)))) := by
  show (if (S t).length ≤ sizeLine then some (D.str (cutS (S t) (some (i : Int)) (some (j : Int)))) else none) = _
  rw [if_pos (szS hl)]
  unfold cutS
  rw [cps_S, S_len, HT.sIx_nat, HT.sIx_nat, Nat.min_eq_left hi, Nat.min_eq_left hj]
theorem drop_get {t : List Nat} {k c : Nat} {cs : List Nat} (h : t.drop k = c :: cs) : t[k]? = some c ∧ k < t.length ∧ t.drop (k + 1) = cs := by
  have h1 : k < t.length := by
    have := congrArg List.length h
    simp at this
    omega
  refine ⟨?_, h1, ?_⟩
  · have := congrArg List.head? h
    simpa [List.head?_drop] using this
  · have := congrArg List.tail h
    simpa [List.tail_drop] using this
theorem span_congr {p q : Nat → Prop} [DecidablePred p] [DecidablePred q] (h : ∀ c, p c ↔ q c) : ∀ (n : Nat) (l : List Nat), span p n l = span q n l
  | 0, _ => rfl
  | _ + 1, [] => rfl
  | n + 1, c :: cs => by
    unfold span
    simp only [h c, span_congr h n cs]
/-! ### run_end -/
theorem run_loop (t : List Nat) (z : Str) (most : Int) (last : Nat) (hl : t.length ≤ 100000) (hlast : last ≤ t.length) (μ : Mem) : ∀ (f a : Nat), a ≤ last → last - a < f →
    whF run_end_t1 run_end_b1 run_end_o1 f [some (.str (S t)), some (.int a), some (.str z), some (.int most), some (.int last)] μ =
      some (.nx, [some (.str (S t)), some (.int ((a + span (fun c => c ∈ z.cps.toList) (last - a) (t.drop a) : Nat) : Int)), some (.str z), some (.int most), some (.int last)], μ) := by
  intro f
  induction f with
  | zero => intro a _ h; omega
  | succ f ih =>
    intro a ha hf
    by_cases h : a < last
    · have hat : a < t.length := by omega
      have hg : t[a]? = some t[a] := List.getElem?_eq_getElem hat
      have hd : t.drop a = t[a] :: t.drop (a + 1) := (List.drop_eq_getElem_cons hat)
      have i1 := ixS (μ := μ) hg hl
      have i2 := inc (μ := μ) (c := t[a]) (z := z)
      rw [hd, show last - a = (last - (a + 1)) + 1 by omega]
      have hlt : ((a : Int) < last) := by omega
      generalize t[a] = c at *
      by_cases hc : c ∈ z.cps.toList
      · have ih' := ih (a + 1) (by omega) (by omega)
        have ht : run_end_t1 [some (.str (S t)), some (.int a), some (.str z), some (.int most), some (.int last)] μ = some (.ok true, μ) := by
          unfold run_end_t1
          generalize S t = Z at *
          simp [hlt, i1, i2, hc]
        have hb : run_end_b1 [some (.str (S t)), some (.int a), some (.str z), some (.int most), some (.int last)] μ = some (.nx, [some (.str (S t)), some (.int ((a + 1 : Nat) : Int)), some (.str z), some (.int most), some (.int last)], μ) := by
          unfold run_end_b1
          simp
        unfold whF
        rw [ht]
        simp only [hb]
        rw [ih']
        simp only [span, hc, if_true]
        generalize span (fun c => c ∈ z.cps.toList) (last - (a + 1)) (List.drop (a + 1) t) = w
        rw [show a + (w + 1) = a + 1 + w by omega]
      · have ht : run_end_t1 [some (.str (S t)), some (.int a), some (.str z), some (.int most), some (.int last)] μ = some (.ok false, μ) := by
          unfold run_end_t1
          generalize S t = Z at *
          simp [hlt, i1, i2, hc]
        unfold whF
        rw [ht]
        simp [run_end_o1, span, hc]
    · have ht : run_end_t1 [some (.str (S t)), some (.int a), some (.str z), some (.int most), some (.int last)] μ = some (.ok false, μ) := by
        unfold run_end_t1
        generalize S t = Z at *
        simp [show ¬ ((a : Int) < last) by omega]
      unfold whF
      rw [ht, show last - a = 0 by omega]
      simp [run_end_o1, span]
theorem span_min {p : Nat → Prop} [DecidablePred p] : ∀ (n m : Nat) (l : List Nat), l.length ≤ m → span p (min m n) l = span p n l
  | 0, m, l, _ => by rw [Nat.min_zero]
  | n + 1, m, [], _ => by cases m with
    | zero => simp [span]
    | succ m => rw [Nat.succ_min_succ]; rfl
  | n + 1, m + 1, c :: cs, h => by
    rw [Nat.succ_min_succ]
    unfold span
    rw [span_min n m cs (by simpa using h)]
theorem run_end_eq (t : List Nat) (z : Str) (k most : Nat) (hl : t.length ≤ 100000) (hk : k ≤ t.length) (hm : most ≤ 1000) :
    m_run_end [.str (S t), .int k, .str z, .int most] = some (.ok (.int ((k + span (fun c => c ∈ z.cps.toList) most (t.drop k) : Nat) : Int))) := by
  have e1 : (if ((k : Int) + most) < t.length then ((k : Int) + most) else (t.length : Int)) = ((min t.length (k + most) : Nat) : Int) := by
    split <;> omega
  have h1 := lenS (μ := []) hl
  have h2 := run_loop t z most (min t.length (k + most)) hl (by omega) [] fuel k (by omega) (by unfold fuel; omega)
  have h3 : min t.length (k + most) - k = min (t.length - k) most := by omega
  rw [h3, span_min most (t.length - k) (t.drop k) (by simp)] at h2
  unfold m_run_end b_run_end
  generalize S t = Z at *
  generalize (k + span (fun c => c ∈ z.cps.toList) most (t.drop k)) = R at *
  simp only [runF_def, sSeq_e, sAsg_e, eOwn_e, eCB_e, eCons_e, eNil_e, eV_e, eBin_e, List.map_cons, List.map_nil, List.length_cons, List.length_nil, List.replicate, List.cons_append, List.nil_append, List.getElem?_cons_zero, List.getElem?_cons_succ, h1, DL.add_int, min_int, e1, gD_e, List.set_cons_succ, List.set_cons_zero]
  rw [show run_end_l1 = whF run_end_t1 run_end_b1 run_end_o1 fuel from rfl, h2]
  simp
end LK
set_option Elab.async false
set_option linter.all false
set_option maxRecDepth 100000
set_option maxHeartbeats 4000000
namespace LK
open PySem PySem.Spec PyProof.Rows L2 DL
theorem chE {μ : Mem} {c : Nat} (hc : c < 0x110000) (n : Bool) (z : Str) (k : Nat) (hz : z = ⟨#[k]⟩) (hk : k < 0x110000) : gEqD n μ (.str ⟨#[c]⟩) (.str z) = some (.bl (if n then !decide (c = k) else decide (c = k))) := by
  rw [hz, eqc hc hk]
theorem incN {μ : Mem} {c : Nat} {z : Str} : gInA true μ (.str ⟨#[c]⟩) (.str z) = some (.bl (!decide (c ∈ z.cps.toList))) := by
  unfold gInA gInS sgn
  simp
theorem gInt_str (μ : Mem) (z : Str) : gInt μ [.str z] = none := rfl
theorem intS {μ : Mem} {t : List Nat} {i : Int} (h : intText? (S t) = some i) (hl : t.length ≤ 640) : gIntA μ [.str (S t)] = some (.int i) := by
  unfold gIntA
  rw [gInt_str, Option.none_or]
  show ((PySem.intText? (S t)).bind fun n => when_ ((S t).length ≤ 640) (some (D.int n))) = _
  rw [h, Option.bind_some, when_t (by rw [S_len]; exact hl)]
theorem sp_signs (c : Nat) : (c ∈ (" )" : Str).cps.toList) ↔ (c = 32 ∨ c = 41) := by
  have e : (" )" : Str).cps.toList = [32, 41] := by decide +kernel
  rw [e]
  simp
/-- the digits of a number, from its first on -/
theorem tok_digits {c : Nat} {cs : List Nat} (hc : isD c) (h48 : c ≠ 48) : ∃ n, span isD 200 (c :: cs) = n ∧ 1 ≤ n ∧ n ≤ 200 ∧ n ≤ (c :: cs).length ∧ NumText.AllDigits ((c :: cs).take n) ∧
    TL.numL (NumText.digitsVal ((c :: cs).take n)) = (c :: cs).take n ∧ 1 ≤ NumText.digitsVal ((c :: cs).take n) ∧ NumText.digitsVal ((c :: cs).take n) < 10 ^ 200 ∧ ((c :: cs).take n).length = n := by
  refine ⟨_, rfl, ?_⟩
  have h1 := span_le (p := isD) 200 (c :: cs)
  have h2 := span_all (p := isD) 200 (c :: cs)
  have h3 : 1 ≤ span isD 200 (c :: cs) := by
    unfold span
    simp [hc]
  generalize span isD 200 (c :: cs) = n at *
  have hlen : ((c :: cs).take n).length = n := by simp at h1 ⊢; omega
  have hw : ∃ c' r, (c :: cs).take n = c' :: r ∧ c' ≠ 48 := by
    obtain ⟨m, rfl⟩ : ∃ m, n = m + 1 := ⟨n - 1, by omega⟩
    exact ⟨c, cs.take m, rfl, h48⟩
  obtain ⟨h4, h5⟩ := numL_back _ _ rfl h2 hw
  have h6 := val_lt _ h2
  rw [hlen] at h6
  exact ⟨h3, h1.1, h1.2, h2, h4, h5, Nat.lt_of_lt_of_le h6 (Nat.pow_le_pow_right (by decide) h1.1), hlen⟩
abbrev bad (k : Nat) : Exn := ⟨"BadText", [("at", .int k)]⟩
theorem read_plain_eq (t : List Nat) (k c d : Nat) (cs : List Nat) (hl : t.length ≤ 100000) (hv : ∀ x ∈ t, x < 0x110000) (h : t.drop k = c :: cs) (h40 : c ≠ 40) :
    (∃ at_, m_read_plain [.str (S t), .int k] = some (.error (bad at_)) ∧ dueF ⟨.start, d, 0⟩ (c :: cs) k = some at_) ∨
    (∃ v e, m_read_plain [.str (S t), .int k] = some (.ok (.tup [v, .int (e : Nat)])) ∧ k < e ∧ e ≤ t.length ∧ Good 0 v ∧ wr v = (t.drop k).take (e - k) ∧ dueF ⟨.start, d, 0⟩ (c :: cs) k = tailF d (t.drop e) e) := by
  obtain ⟨hg, hk, hd⟩ := drop_get h
  have hc : c < 0x110000 := hv c (List.mem_of_getElem? hg)
  have i1 := fun μ => ixS (μ := μ) hg hl
  have l1 := fun μ => lenS (μ := μ) hl
  have k45 : ∀ μ, gEqD false μ (.str ⟨#[c]⟩) (.str "-") = some (.bl (decide (c = 45))) := fun μ => by rw [chE hc false "-" 45 (by decide +kernel) (by decide)]; rfl
  have k48 : ∀ μ, gEqD false μ (.str ⟨#[c]⟩) (.str "0") = some (.bl (decide (c = 48))) := fun μ => by rw [chE hc false "0" 48 (by decide +kernel) (by decide)]; rfl
  have n09 : ∀ μ, gInA true μ (.str ⟨#[c]⟩) (.str "0123456789") = some (.bl (!decide (isD c))) := fun μ => by rw [incN]; simp only [dig09]
  have nAZ : ∀ μ, gInA false μ (.str ⟨#[c]⟩) (.str "abcdefghijklmnopqrstuvwxyz") = some (.bl (decide (isL c))) := fun μ => by rw [inc]; simp only [letAZ]
  have o3 : ∀ μ (z : D) (i : Int), DL.plain z = true → outD μ (.tup [z, .int i]) = some (.tup [z, .int i]) := fun μ z i q => out_tup (by show (DL.plain z && (DL.plain (.int i) && true)) = true; rw [q]; rfl)
  by_cases hL : isL c
  · -- a word
    right
    have r1 : m_run_end [.str (S t), .int k, .str "abcdefghijklmnopqrstuvwxyz", .int 20] = _ := run_end_eq t "abcdefghijklmnopqrstuvwxyz" k 20 hl (by omega) (by decide)
    rw [span_congr (q := isL) letAZ] at r1
    have sp := span_le (p := isL) 20 (t.drop k)
    have sa := span_all (p := isL) 20 (t.drop k)
    have due : dueF ⟨.start, d, 0⟩ (c :: cs) k = tailF d (t.drop (k + span isL 20 (t.drop k))) (k + span isL 20 (t.drop k)) := by
      unfold dueF
      rw [step_word hL]
      simp only
      rw [due_word d 19 1 cs (k + 1) rfl, h]
      have e : span isL 20 (c :: cs) = span isL 19 cs + 1 := by simp [span, hL]
      rw [e, show k + (span isL 19 cs + 1) = k + 1 + span isL 19 cs by omega, ← hd, List.drop_drop]
    have p1 : 1 ≤ span isL 20 (t.drop k) := by rw [h]; simp [span, hL]
    generalize span isL 20 (t.drop k) = n at *
    have hn : k + n ≤ t.length := by simp at sp; omega
    have s1 := fun μ => slS (μ := μ) (i := k) (j := k + n) hl (by omega) hn
    rw [show k + n - k = n by omega] at s1
    refine ⟨.str (S ((t.drop k).take n)), k + n, ?_, by omega, hn, ⟨?_, ?_, ?_⟩, ?_, due⟩
    · unfold m_read_plain b_read_plain
      have o := o3 [] (.str (S ((t.drop k).take n))) ((k + n : Nat) : Int) rfl
      generalize S ((t.drop k).take n) = R at *
      generalize S t = Z at *
      generalize (⟨#[c]⟩ : Str) = C at *
      generalize (k + n) = e at *
      simp [i1, nAZ, hL, r1, s1, o]
    · simp only [cps_S, List.length_take]; omega
    · simp only [cps_S, List.length_take]; omega
    · rw [cps_S]; exact fun x hx => sa x hx
    · show (S _).cps.toList = _
      rw [cps_S, show k + n - k = n by omega]
  · by_cases h45 : c = 45
    · subst h45
      have st := step_minus (d := d)
      cases cs with
      | nil =>
        left
        have hlen : k + 1 = t.length := by
          have := congrArg List.length h
          simp at this
          omega
        refine ⟨k + 1, ?_, by simp [dueF, st, fin]⟩
        have l2 : ((k : Int) + 1) = (t.length : Int) := by omega
        have e0 : ((k + 1 : Nat) : Int) = (t.length : Int) := by omega
        unfold m_read_plain b_read_plain bad
        generalize S t = Z at *
        generalize (⟨#[45]⟩ : Str) = C at *
        rw [e0]
        simp [i1, nAZ, hL, k45, l1, l2, DL.plainL, DL.plain]
      | cons c2 cs2 =>
        have h2 : t.drop (k + 1) = c2 :: cs2 := hd
        obtain ⟨hg2, hk2, hd2⟩ := drop_get h2
        have hc2 : c2 < 0x110000 := hv c2 (List.mem_of_getElem? hg2)
        have i2 := fun μ => ixS (μ := μ) hg2 hl
        have j48 : ∀ μ, gEqD false μ (.str ⟨#[c2]⟩) (.str "0") = some (.bl (decide (c2 = 48))) := fun μ => by rw [chE hc2 false "0" 48 (by decide +kernel) (by decide)]; rfl
        have j09 : ∀ μ, gInA true μ (.str ⟨#[c2]⟩) (.str "0123456789") = some (.bl (!decide (isD c2))) := fun μ => by rw [incN]; simp only [dig09]
        have l2 : ¬ ((k : Int) + 1) = (t.length : Int) := by omega
        have l3 : ((k : Int) < (k : Int) + 1) := by omega
        have hcast : ((k + 1 : Nat) : Int) = (k : Int) + 1 := by omega
        rw [hcast] at i2
        by_cases hD2 : isD c2 ∧ c2 ≠ 48
        · right
          obtain ⟨n, hn, n1, n2, n3, n4, n5, n6, n7, n8⟩ := tok_digits (cs := cs2) hD2.1 hD2.2
          have r1 : m_run_end [.str (S t), .int ((k + 1 : Nat) : Int), .str "0123456789", .int 200] = _ := run_end_eq t "0123456789" (k + 1) 200 hl (by omega) (by decide)
          rw [span_congr (q := isD) dig09, h2, hn, hcast] at r1
          have due : dueF ⟨.start, d, 0⟩ (45 :: c2 :: cs2) k = tailF d (t.drop (k + 1 + n)) (k + 1 + n) := by
            unfold dueF
            rw [st]
            simp only
            unfold dueF
            rw [step_neg hD2.1 hD2.2]
            simp only
            rw [due_digits d 199 1 cs2 (k + 1 + 1) rfl]
            have e : n = span isD 199 cs2 + 1 := by rw [← hn]; simp [span, hD2.1]
            rw [e, show k + 1 + (span isD 199 cs2 + 1) = k + 1 + 1 + span isD 199 cs2 by omega, ← hd2, List.drop_drop]
          have hlen : k + 1 + n ≤ t.length := by
            have := congrArg List.length h2
            simp at this n3
            omega
          have s1 := fun μ => slS (μ := μ) (i := k) (j := k + 1 + n) hl (by omega) hlen
          have ew : (t.drop k).take (k + 1 + n - k) = 45 :: (c2 :: cs2).take n := by
            rw [h, show k + 1 + n - k = n + 1 by omega]
            rfl
          rw [ew] at s1
          have hi : ∀ μ, gIntA μ [.str (S (45 :: (c2 :: cs2).take n))] = some (.int (-((NumText.digitsVal ((c2 :: cs2).take n) : Nat) : Int))) := fun μ =>
            intS (intText_neg (cps_S _) n4 (by intro e; rw [e] at n8; simp at n8; omega) (by rw [S_len]; simp; omega)) (by simp; omega)
          refine ⟨.int (-((NumText.digitsVal ((c2 :: cs2).take n) : Nat) : Int)), k + 1 + n, ?_, by omega, hlen, ?_, ?_, due⟩
          · unfold m_read_plain b_read_plain
            have o := o3 [] (.int (-((NumText.digitsVal ((c2 :: cs2).take n) : Nat) : Int))) ((k + 1 + n : Nat) : Int) rfl
            generalize S (45 :: (c2 :: cs2).take n) = R at *
            generalize (-((NumText.digitsVal ((c2 :: cs2).take n) : Nat) : Int)) = V at *
            generalize S t = Z at *
            generalize (⟨#[45]⟩ : Str) = C at *
            generalize (⟨#[c2]⟩ : Str) = C2 at *
            generalize (k + 1 + n) = e at *
            simp [i1, i2, nAZ, hL, k45, l1, l2, l3, j09, j48, hD2.1, hD2.2, r1, s1, hi, o]
          · show (-((NumText.digitsVal ((c2 :: cs2).take n) : Nat) : Int)).natAbs < 10 ^ 200
            omega
          · rw [ew]
            show num _ = _
            rw [num_neg _ n6, n5]
        · left
          refine ⟨k + 1, ?_, ?_⟩
          · unfold m_read_plain b_read_plain bad
            have hor : (!decide (isD c2)) = true ∨ c2 = 48 := by
              by_cases q : isD c2
              · exact .inr (by
                  by_cases q2 : c2 = 48
                  · exact q2
                  · exact absurd ⟨q, q2⟩ hD2)
              · exact .inl (by simp [q])
            rw [show (((k + 1 : Nat) : Int)) = (k : Int) + 1 from hcast]
            generalize S t = Z at *
            generalize (⟨#[45]⟩ : Str) = C at *
            by_cases q : isD c2
            · have q2 : c2 = 48 := by
                rcases hor with z | z
                · simp [q] at z
                · exact z
              generalize (⟨#[c2]⟩ : Str) = C2 at *
              simp [i1, i2, nAZ, hL, k45, l1, l2, l3, j09, j48, q, q2, DL.plainL, DL.plain]
              simp [q2] at q
              simp [q]
            · generalize (⟨#[c2]⟩ : Str) = C2 at *
              simp [i1, i2, nAZ, hL, k45, l1, l2, l3, j09, j48, q, DL.plainL, DL.plain]
          · unfold dueF
            rw [st]
            simp only
            unfold dueF
            have : step ⟨.minus, d, 0⟩ c2 = none := by simp only [step]; rw [if_neg hD2]
            rw [this]
    · by_cases h48 : c = 48
      · subst h48
        right
        refine ⟨.int 0, k + 1, ?_, by omega, by omega, ?_, ?_, ?_⟩
        · unfold m_read_plain b_read_plain
          have l2 : ¬ ((k : Int)) = (t.length : Int) := by omega
          have hD : isD 48 := by decide
          have hcast : ((k + 1 : Nat) : Int) = (k : Int) + 1 := by omega
          have o := o3 [] (.int 0) ((k : Int) + 1) rfl
          rw [hcast]
          generalize S t = Z at *
          generalize (⟨#[48]⟩ : Str) = C at *
          simp [i1, nAZ, hL, k45, k48, n09, hD, l1, l2, o]
        · show (0 : Int).natAbs < 10 ^ 200
          exact Nat.pow_pos (by decide)
        · rw [h, show k + 1 - k = 1 by omega]
          show num ((0 : Nat) : Int) = [48]
          rw [num_nat, numL_zero]
        · unfold dueF
          rw [step_zero]
          simp only
          rw [due_zero, hd]
      · by_cases hD : isD c
        · right
          obtain ⟨n, hn, n1, n2, n3, n4, n5, n6, n7, n8⟩ := tok_digits (cs := cs) hD h48
          have r1 : m_run_end [.str (S t), .int k, .str "0123456789", .int 200] = _ := run_end_eq t "0123456789" k 200 hl (by omega) (by decide)
          rw [span_congr (q := isD) dig09, h, hn] at r1
          have due : dueF ⟨.start, d, 0⟩ (c :: cs) k = tailF d (t.drop (k + n)) (k + n) := by
            unfold dueF
            rw [step_digit hD h48]
            simp only
            rw [due_digits d 199 1 cs (k + 1) rfl]
            have e : n = span isD 199 cs + 1 := by rw [← hn]; simp [span, hD]
            rw [e, show k + (span isD 199 cs + 1) = k + 1 + span isD 199 cs by omega, ← hd, List.drop_drop]
          have hlen : k + n ≤ t.length := by
            have := congrArg List.length h
            simp at this n3
            omega
          have s1 := fun μ => slS (μ := μ) (i := k) (j := k + n) hl (by omega) hlen
          have ew : (t.drop k).take (k + n - k) = (c :: cs).take n := by
            rw [h, show k + n - k = n by omega]
          rw [ew] at s1
          have hi : ∀ μ, gIntA μ [.str (S ((c :: cs).take n))] = some (.int ((NumText.digitsVal ((c :: cs).take n) : Nat) : Int)) := fun μ =>
            intS (intText_digits (by rw [cps_S]; exact n4) (by rw [cps_S]; intro e; rw [e] at n8; simp at n8; omega) (by rw [S_len, n8]; omega)) (by rw [n8]; omega)
          refine ⟨.int ((NumText.digitsVal ((c :: cs).take n) : Nat) : Int), k + n, ?_, by omega, hlen, ?_, ?_, due⟩
          · unfold m_read_plain b_read_plain
            have o := o3 [] (.int ((NumText.digitsVal ((c :: cs).take n) : Nat) : Int)) ((k + n : Nat) : Int) rfl
            have l2 : ¬ ((k : Int)) = (t.length : Int) := by omega
            generalize S ((c :: cs).take n) = R at *
            generalize ((NumText.digitsVal ((c :: cs).take n) : Nat) : Int) = V at *
            generalize S t = Z at *
            generalize (⟨#[c]⟩ : Str) = C at *
            generalize (k + n) = e at *
            simp [i1, nAZ, hL, k45, h45, l1, l2, n09, k48, hD, h48, r1, s1, hi, o]
          · show (((NumText.digitsVal ((c :: cs).take n) : Nat) : Int)).natAbs < 10 ^ 200
            omega
          · rw [ew]
            show num _ = _
            rw [num_nat, n5]
        · left
          refine ⟨k, ?_, ?_⟩
          · unfold m_read_plain b_read_plain bad
            have l2 : ¬ ((k : Int)) = (t.length : Int) := by omega
            generalize S t = Z at *
            generalize (⟨#[c]⟩ : Str) = C at *
            simp [i1, nAZ, hL, k45, h45, l1, l2, n09, hD, DL.plainL, DL.plain]
          · unfold dueF
            have : step ⟨.start, d, 0⟩ c = none := by simp [step, begin_, h40, h45, h48, hD, hL]
            rw [this]
end LK
set_option Elab.async false
set_option linter.all false
set_option maxRecDepth 100000
set_option maxHeartbeats 4000000
namespace LK
open PySem PySem.Spec PyProof.Rows L2 DL
/-! ### the stack in memory -/
structure Stk (b : Nat) (μ : Mem) (ids : List Nat) (st : List (List D)) : Prop where
  top : μ[b]? = some (.lst (ids.map D.ref))
  len : ids.length = st.length
  nd : ids.Nodup
  pos : ∀ i ∈ ids, i ≠ b ∧ i < μ.length
  at_ : ∀ (j i : Nat) (fr : List D), ids[j]? = some i → st[j]? = some fr → μ[i]? = some (.lst fr)
theorem Stk.last {b : Nat} {μ : Mem} {ids : List Nat} {i : Nat} {st : List (List D)} {fr : List D} (h : Stk b μ (ids ++ [i]) (st ++ [fr])) : μ[i]? = some (.lst fr) := by
  have hl : ids.length = st.length := by have := h.len; simpa using this
  refine h.at_ ids.length i fr (by simp) ?_
  rw [hl]
  simp
theorem Stk.push {b : Nat} {μ : Mem} {ids : List Nat} {st : List (List D)} (h : Stk b μ ids st) : Stk b ((μ ++ [MO.lst []]).set b (.lst (ids.map D.ref ++ [D.ref μ.length]))) (ids ++ [μ.length]) (st ++ [[]]) := by
  have h0 : b < μ.length := (List.getElem?_eq_some_iff.mp h.top).1
  refine ⟨?_, by simp [h.len], ?_, ?_, ?_⟩
  · rw [List.getElem?_set_self (by simp; omega)]
    simp
  · refine List.nodup_append.mpr ⟨h.nd, by simp, fun a ha b hb e => ?_⟩
    have := (h.pos a ha).2
    have : b = μ.length := by simpa using hb
    omega
  · intro i hi
    rw [List.length_set, List.length_append]
    rcases List.mem_append.mp hi with q | q
    · have := h.pos i q
      simp
      omega
    · have : i = μ.length := by simpa using q
      simp
      omega
  · intro j i fr h1 h2
    have hl := h.len
    by_cases hj : j < ids.length
    · rw [List.getElem?_append_left hj] at h1
      rw [List.getElem?_append_left (by omega)] at h2
      have hm := h.pos i (List.mem_of_getElem? h1)
      rw [List.getElem?_set_ne (by omega), List.getElem?_append_left hm.2]
      exact h.at_ j i fr h1 h2
    · rw [List.getElem?_append_right (by omega)] at h1
      rw [List.getElem?_append_right (by omega)] at h2
      have e1 : i = μ.length := by
        have := List.mem_of_getElem? h1
        simpa using this
      have e2 : fr = [] := by
        have := List.mem_of_getElem? h2
        simpa using this
      subst e1 e2
      rw [List.getElem?_set_ne (by omega), List.getElem?_append_right (Nat.le_refl _)]
      simp
theorem Stk.app {b : Nat} {μ : Mem} {ids : List Nat} {i : Nat} {st : List (List D)} {fr fr' : List D} (h : Stk b μ (ids ++ [i]) (st ++ [fr])) : Stk b (μ.set i (.lst fr')) (ids ++ [i]) (st ++ [fr']) := by
  have hp := h.pos i (by simp)
  have hl : ids.length = st.length := by have := h.len; simpa using this
  refine ⟨?_, by simp [hl], h.nd, fun j hj => ?_, ?_⟩
  · rw [List.getElem?_set_ne (by omega)]
    exact h.top
  · rw [List.length_set]
    exact h.pos j hj
  · intro j m f h1 h2
    by_cases hj : j < ids.length
    · have hm : m ≠ i := by
        rw [List.getElem?_append_left hj] at h1
        have := List.nodup_append.mp h.nd
        intro e
        exact this.2.2 m (List.mem_of_getElem? h1) i (by simp) e
      rw [List.getElem?_set_ne (Ne.symm hm)]
      refine h.at_ j m f h1 ?_
      rw [List.getElem?_append_left (by omega)] at h2 ⊢
      exact h2
    · rw [List.getElem?_append_right (by omega)] at h1 h2
      have e1 : m = i := by
        have := List.mem_of_getElem? h1
        simpa using this
      have e2 : f = fr' := by
        have := List.mem_of_getElem? h2
        simpa using this
      subst e1 e2
      rw [List.getElem?_set_self hp.2]
theorem Stk.pop {b : Nat} {μ : Mem} {ids : List Nat} {i : Nat} {st : List (List D)} {fr : List D} (h : Stk b μ (ids ++ [i]) (st ++ [fr])) : Stk b (μ.set b (.lst (ids.map D.ref))) ids st := by
  have h0 : b < μ.length := (List.getElem?_eq_some_iff.mp h.top).1
  have hl : ids.length = st.length := by have := h.len; simpa using this
  refine ⟨by rw [List.getElem?_set_self h0], hl, (List.nodup_append.mp h.nd).1, fun j hj => ?_, fun j m f h1 h2 => ?_⟩
  · rw [List.length_set]
    exact h.pos j (List.mem_append_left _ hj)
  · have hm := h.pos m (List.mem_append_left _ (List.mem_of_getElem? h1))
    rw [List.getElem?_set_ne (by omega)]
    refine h.at_ j m f ?_ ?_
    · rw [List.getElem?_append_left (List.getElem?_eq_some_iff.mp h1).1]; exact h1
    · rw [List.getElem?_append_left (List.getElem?_eq_some_iff.mp h2).1]; exact h2
theorem Stk.split {b : Nat} {μ : Mem} {ids : List Nat} {st0 : List (List D)} {fr : List D} (h : Stk b μ ids (st0 ++ [fr])) : ∃ ids0 i, ids = ids0 ++ [i] := by
  have hl := h.len
  have : ids ≠ [] := by intro e; rw [e] at hl; simp at hl
  exact ⟨ids.dropLast, ids.getLast this, (List.dropLast_concat_getLast this).symm⟩
theorem atI_last {α : Type} (xs : List α) (x : α) : L2.atI (xs ++ [x]) (-1) = some x := by
  unfold L2.atI L2.ixN
  rw [if_neg (by omega), if_pos (by simp; omega)]
  have : ((-1 : Int) + ((xs ++ [x]).length : Int)).toNat = xs.length := by simp; omega
  show (xs ++ [x])[((-1 : Int) + ((xs ++ [x]).length : Int)).toNat]? = some x
  rw [this]
  simp
theorem last_ix {b : Nat} {μ : Mem} {ids : List Nat} {i : Nat} {st : List (List D)} {fr : List D} (h : Stk b μ (ids ++ [i]) (st ++ [fr])) : gIx μ (.ref b) (.int (-1)) = some (.ref i) := by
  refine gIx_int (ds := (ids ++ [i]).map D.ref) (.inr ?_) ?_ (by intro es e; cases e)
  · rw [lsA_ref, isl_ref, h.top]
  · rw [List.map_append]
    exact atI_last _ _
theorem pop_last {b : Nat} {μ : Mem} {ids : List Nat} {i : Nat} {st : List (List D)} {fr : List D} (h : Stk b μ (ids ++ [i]) (st ++ [fr])) : muPop μ (.ref b) [] = some (.ref i, μ.set b (.lst (ids.map D.ref))) := by
  unfold muPop
  simp only [h.top]
  simp [notNew]
theorem tup_ref {μ : Mem} {i : Nat} {fr : List D} (h : μ[i]? = some (.lst fr)) : gTuple μ [.ref i] = some (.tup fr) := tup_any (by rw [lsA_ref, isl_ref, h])
theorem tru_stk {b : Nat} {μ : Mem} {ids : List Nat} {st : List (List D)} (h : Stk b μ ids st) : truD μ (.ref b) = some (!ids.isEmpty) := by
  show ((sqAny μ (.ref b)).map fun ds => !ds.isEmpty) = _
  have : sqAny μ (.ref b) = some (ids.map D.ref) := by
    show lsAny μ (.ref b) = _
    rw [lsA_ref, isl_ref, h.top]
  rw [this]
  cases ids <;> rfl
/-! ### what has been read -/
def preF (fr : List D) : List Nat := 40 :: (fr.flatMap fun d => wr d ++ [32])
def pre (st : List (List D)) : List Nat := st.flatMap preF
theorem pre_snoc (st : List (List D)) (fr : List D) : pre (st ++ [fr]) = pre st ++ preF fr := by simp [pre]
theorem joinL_snoc (v : D) : ∀ fr : List D, TL.joinL [32] (wrL (fr ++ [v])) = (fr.flatMap fun d => wr d ++ [32]) ++ wr v
  | [] => by simp [wrL, TL.joinL]
  | [d] => by simp [wrL, TL.joinL]
  | d :: e :: fr => by
    have ih := joinL_snoc v (e :: fr)
    show wr d ++ ([32] ++ TL.joinL [32] (wrL (e :: fr ++ [v]))) = _
    rw [ih]
    simp
theorem wr_snoc (fr : List D) (v : D) : wr (.tup (fr ++ [v])) = preF fr ++ wr v ++ [41] := by
  show 40 :: (TL.joinL [32] (wrL (fr ++ [v])) ++ [41]) = _
  rw [joinL_snoc]
  simp [preF]
theorem preF_len (fr : List D) : fr.length ≤ (preF fr).length := by
  unfold preF
  rw [List.length_cons]
  have : fr.length ≤ (fr.flatMap fun d => wr d ++ [32]).length := by
    induction fr with
    | nil => simp
    | cons d fr ih => simp at ih ⊢; omega
  omega
theorem Good.up : ∀ (n : Nat) (d : D), Good n d → Good (n + 1) d := by
  intro n
  induction n with
  | zero => intro d h; cases d <;> first | exact h | exact h.elim
  | succ n ih =>
    intro d h
    cases d with
    | tup ds => exact fun x hx => ih x (h x hx)
    | _ => first | exact h | exact h.elim
theorem Good.mono {n : Nat} {d : D} (h : Good n d) : ∀ m, Good (n + m) d
  | 0 => h
  | m + 1 => Good.up _ _ (Good.mono h m)
theorem Good.le {n m : Nat} {d : D} (h : Good n d) (q : n ≤ m) : Good m d := by
  have := h.mono (m - n)
  rwa [show n + (m - n) = m by omega] at this
def GoodS (st : List (List D)) : Prop := ∀ (j : Nat) (fr : List D), st[j]? = some fr → ∀ d ∈ fr, Good (99 - j) d
theorem GoodS.snoc {st : List (List D)} {fr : List D} (h : GoodS st) (h2 : ∀ d ∈ fr, Good (99 - st.length) d) : GoodS (st ++ [fr]) := fun j f q => by
  by_cases hj : j < st.length
  · rw [List.getElem?_append_left hj] at q
    exact h j f q
  · rw [List.getElem?_append_right (by omega)] at q
    have hf : f = fr := by
      have := List.mem_of_getElem? q
      simpa using this
    have hj2 : j = st.length := by
      have := (List.getElem?_eq_some_iff.mp q).1
      simp at this
      omega
    subst hf hj2
    exact h2
theorem GoodS.init {st : List (List D)} {fr : List D} (h : GoodS (st ++ [fr])) : GoodS st := fun j f q => h j f (by rw [List.getElem?_append_left (List.getElem?_eq_some_iff.mp q).1]; exact q)
theorem GoodS.last {st : List (List D)} {fr : List D} (h : GoodS (st ++ [fr])) : ∀ d ∈ fr, Good (99 - st.length) d := h st.length fr (by simp)
structure Head (t : List Nat) (k : Nat) (st : List (List D)) : Prop where
  tk : t.take k = pre st
  le : k ≤ t.length
  good : GoodS st
  few : st.length ≤ 100
  due : dueF ⟨.start, 0, 0⟩ t 0 = dueF ⟨.start, st.length, 0⟩ (t.drop k) k
theorem good_form {n : Nat} {v : D} (h : Good n v) : (∃ i, v = .int i) ∨ (∃ z, v = .str z) ∨ ∃ ds, v = .tup ds := by
  cases v with
  | int i => exact .inl ⟨i, rfl⟩
  | str i => exact .inr (.inl ⟨i, rfl⟩)
  | tup i => exact .inr (.inr ⟨i, rfl⟩)
  | _ => cases n <;> exact h.elim
/-! ### the inner loop's body -/
section
variable {t : List Nat} {μ : Mem} {ids : List Nat} {i : Nat} {st : List (List D)} {fr : List D} {v : D} {k : Nat}
theorem app_last (h : Stk 0 μ (ids ++ [i]) (st ++ [fr])) (hfr : fr.length ≤ 100000) (hv : (∃ i, v = .int i) ∨ (∃ z, v = .str z) ∨ ∃ ds, v = .tup ds) (Z : Str) (k : Int) :
    sDrop (eMu muAppend (eBin gIx (eV 1) (eUn gNeg (eC (.int 1)))) (eCons (eV 3) (eNil))) [some (.str Z), some (.ref 0), some (.int k), some v] μ =
      some (.nx, [some (.str Z), some (.ref 0), some (.int k), some v], μ.set i (.lst (fr ++ [v]))) := by
  have h1 := last_ix h
  have h2 : isLst μ (.ref i) = some fr := by rw [isl_ref, h.last]
  have h3 : muAppend μ (.ref i) [v] = some (.non, μ.set i (.lst (fr ++ [v]))) := app_ref h.last hfr (by rcases hv with ⟨_, rfl⟩ | ⟨_, rfl⟩ | ⟨_, rfl⟩ <;> rfl)
  generalize μ.set i (.lst (fr ++ [v])) = μ' at *
  rcases hv with ⟨_, rfl⟩ | ⟨_, rfl⟩ | ⟨_, rfl⟩ <;> simp [h1, h2, h3, -isl_ref]
theorem b1_go (h : Stk 0 μ (ids ++ [i]) (st ++ [fr])) (hfr : fr.length ≤ 100000) (hv : (∃ i, v = .int i) ∨ (∃ z, v = .str z) ∨ ∃ ds, v = .tup ds) (hl : t.length ≤ 100000) (ht : ∀ x ∈ t, x < 0x110000) (hk : k ≤ t.length) :
    (t.drop k = [] ∧ ∃ sd μ', read_value_b1 [some (.str (S t)), some (.ref 0), some (.int k), some v] μ = some (.exc (bad k), sd, μ')) ∨
    (∃ c cs, t.drop k = c :: cs ∧ c ≠ 32 ∧ c ≠ 41 ∧ ∃ sd μ', read_value_b1 [some (.str (S t)), some (.ref 0), some (.int k), some v] μ = some (.exc (bad k), sd, μ')) ∨
    (∃ cs, t.drop k = 32 :: cs ∧ read_value_b1 [some (.str (S t)), some (.ref 0), some (.int k), some v] μ = some (.brk, [some (.str (S t)), some (.ref 0), some (.int ((k + 1 : Nat) : Int)), some v], μ.set i (.lst (fr ++ [v])))) ∨
    (∃ cs, t.drop k = 41 :: cs ∧ read_value_b1 [some (.str (S t)), some (.ref 0), some (.int k), some v] μ = some (.nx, [some (.str (S t)), some (.ref 0), some (.int ((k + 1 : Nat) : Int)), some (.tup (fr ++ [v]))], (μ.set i (.lst (fr ++ [v]))).set 0 (.lst (ids.map D.ref)))) := by
  have ha := app_last h hfr hv (S t) k
  have h' : Stk 0 (μ.set i (.lst (fr ++ [v]))) (ids ++ [i]) (st ++ [fr ++ [v]]) := h.app
  have l1 := fun μ => lenS (μ := μ) hl
  have hcast : ((k + 1 : Nat) : Int) = (k : Int) + 1 := by omega
  cases hd : t.drop k with
  | nil =>
    left
    refine ⟨rfl, ?_⟩
    have e : (k : Int) = (t.length : Int) := by
      have := congrArg List.length hd
      simp at this
      omega
    unfold read_value_b1 bad
    rw [sSeq_of ha]
    generalize S t = Z at *
    rcases hv with ⟨_, rfl⟩ | ⟨_, rfl⟩ | ⟨_, rfl⟩ <;> exact ⟨_, _, by simp [l1, e, DL.plainL, DL.plain]; exact ⟨rfl, rfl⟩⟩
  | cons c cs =>
    right
    obtain ⟨hg, hk2, hd2⟩ := drop_get hd
    have hc : c < 0x110000 := ht c (List.mem_of_getElem? hg)
    have i1 := fun μ => ixS (μ := μ) hg hl
    have nSP : ∀ μ, gInA true μ (.str ⟨#[c]⟩) (.str " )") = some (.bl (!decide (c = 32 ∨ c = 41))) := fun μ => by rw [incN]; simp only [sp_signs]
    have k32 : ∀ μ, gEqD false μ (.str ⟨#[c]⟩) (.str " ") = some (.bl (decide (c = 32))) := fun μ => by rw [chE hc false " " 32 (by decide +kernel) (by decide)]; rfl
    have ne : ¬ ((k : Int) = (t.length : Int)) := by omega
    have ek : (k : Int) + 1 - 1 = k := by omega
    by_cases h32 : c = 32
    · right; left
      subst h32
      refine ⟨cs, rfl, ?_⟩
      unfold read_value_b1
      rw [sSeq_of ha, hcast]
      generalize S t = Z at *
      generalize (⟨#[32]⟩ : Str) = C at *
      rcases hv with ⟨_, rfl⟩ | ⟨_, rfl⟩ | ⟨_, rfl⟩ <;> simp [l1, ne, i1, nSP, k32, ek]
    · by_cases h41 : c = 41
      · right; right
        subst h41
        refine ⟨cs, rfl, ?_⟩
        have p1 := pop_last h'
        have p2 : isLst (μ.set i (.lst (fr ++ [v]))) (.ref 0) = some ((ids ++ [i]).map D.ref) := by rw [isl_ref, h'.top]
        have p3 : gTuple ((μ.set i (.lst (fr ++ [v]))).set 0 (.lst (ids.map D.ref))) [.ref i] = some (.tup (fr ++ [v])) := by
          refine tup_ref ?_
          have := (h.pos i (by simp)).1
          rw [List.getElem?_set_ne (by omega)]
          exact h'.last
        unfold read_value_b1
        rw [sSeq_of ha, hcast]
        generalize S t = Z at *
        generalize (⟨#[41]⟩ : Str) = C at *
        generalize (ids ++ [i]).map D.ref = W at *
        generalize (μ.set i (.lst (fr ++ [v]))).set 0 (.lst (ids.map D.ref)) = μ2 at *
        generalize μ.set i (.lst (fr ++ [v])) = μ1 at *
        generalize fr ++ [v] = V at *
        rcases hv with ⟨_, rfl⟩ | ⟨_, rfl⟩ | ⟨_, rfl⟩ <;> simp [l1, ne, i1, nSP, k32, ek, p1, p2, p3, -isl_ref]
      · left
        refine ⟨c, cs, rfl, h32, h41, ?_⟩
        unfold read_value_b1 bad
        rw [sSeq_of ha]
        generalize S t = Z at *
        generalize (⟨#[c]⟩ : Str) = C at *
        rcases hv with ⟨_, rfl⟩ | ⟨_, rfl⟩ | ⟨_, rfl⟩ <;> exact ⟨_, _, by simp [l1, ne, i1, nSP, h32, h41, DL.plainL, DL.plain]; exact ⟨rfl, rfl⟩⟩
end
end LK
set_option Elab.async false
set_option linter.all false
set_option maxRecDepth 100000
set_option maxHeartbeats 4000000
namespace LK
open PySem PySem.Spec PyProof.Rows L2 DL
abbrev due0 (t : List Nat) : Option Nat := dueF ⟨.start, 0, 0⟩ t 0
/-- the whole has been decided -/
def Done (t : List Nat) (r : SR) : Prop := (∃ at_ sd μ', r = some (.exc (bad at_), sd, μ') ∧ due0 t = some at_) ∨ (∃ v sd μ', r = some (.ret v, sd, μ') ∧ Good 100 v ∧ wr v = t ∧ due0 t = none)
theorem tailF_32 (d : Nat) (cs : List Nat) (k : Nat) : tailF (d + 1) (32 :: cs) k = dueF ⟨.start, d + 1, 0⟩ cs (k + 1) := by
  show (match aft (d + 1) 32 with | none => some k | some b => dueF b cs (k + 1)) = _
  rw [show aft (d + 1) 32 = some ⟨.start, d + 1, 0⟩ by simp [aft]]
theorem tailF_41 (d : Nat) (cs : List Nat) (k : Nat) : tailF (d + 1) (41 :: cs) k = tailF d cs (k + 1) := by
  show (match aft (d + 1) 41 with | none => some k | some b => dueF b cs (k + 1)) = _
  rw [show aft (d + 1) 41 = some ⟨.after, d, 0⟩ by simp [aft]]
  exact due_after d cs (k + 1)
theorem take_next {t : List Nat} {k c : Nat} {cs : List Nat} (h : t.drop k = c :: cs) : t.take (k + 1) = t.take k ++ [c] := by
  obtain ⟨hg, hk, _⟩ := drop_get h
  rw [List.take_succ, hg]
  rfl
theorem innerL (t : List Nat) (hl : t.length ≤ 100000) (ht : ∀ x ∈ t, x < 0x110000) : ∀ (n : Nat) (st : List (List D)) (ids : List Nat) (μ : Mem) (k : Nat) (v : D) (f : Nat), st.length = n → n < f → n ≤ 100 → Stk 0 μ ids st → t.take k = pre st ++ wr v → k ≤ t.length → GoodS st → Good (100 - n) v →
    due0 t = tailF n (t.drop k) k →
    Done t (whF read_value_t1 read_value_b1 read_value_o1 f [some (.str (S t)), some (.ref 0), some (.int k), some v] μ) ∨
    ∃ k' st' ids' v' μ', whF read_value_t1 read_value_b1 read_value_o1 f [some (.str (S t)), some (.ref 0), some (.int k), some v] μ = some (.nx, [some (.str (S t)), some (.ref 0), some (.int (k' : Nat)), some v'], μ') ∧ Stk 0 μ' ids' st' ∧ Head t k' st' ∧ k < k' := by
  intro n
  induction n with
  | zero =>
    intro st ids μ k v f hn hf _ hS htk hk hG hv hdue
    have hst : st = [] := List.eq_nil_of_length_eq_zero hn
    subst hst
    left
    obtain ⟨f, rfl⟩ : ∃ f', f = f' + 1 := ⟨f - 1, by omega⟩
    have hids : ids = [] := List.eq_nil_of_length_eq_zero (by rw [hS.len]; rfl)
    subst hids
    have e1 : read_value_t1 [some (.str (S t)), some (.ref 0), some (.int k), some v] μ = some (.ok false, μ) := by
      unfold read_value_t1
      have := tru_stk hS
      simp [this]
    unfold whF
    rw [e1]
    simp only
    have l1 := fun μ => lenS (μ := μ) hl
    have hform := good_form hv
    have hp := (good_ok _ _ hv).2
    cases hd : t.drop k with
    | nil =>
      right
      rw [hd] at hdue
      have e : ¬ ((k : Int) < (t.length : Int)) := by
        have := congrArg List.length hd
        simp at this
        omega
      have hout : outD μ v = some v := by
        rcases hform with ⟨_, rfl⟩ | ⟨_, rfl⟩ | ⟨ds, rfl⟩
        · rfl
        · rfl
        · exact out_tup hp
      refine ⟨v, [some (.str (S t)), some (.ref 0), some (.int k), some v], μ, ?_, hv, ?_, hdue.trans (by simp [tailF])⟩
      · unfold read_value_o1
        generalize S t = Z at *
        rcases hform with ⟨_, rfl⟩ | ⟨_, rfl⟩ | ⟨ds, rfl⟩ <;> simp [l1, e, hout]
      · have h1 : t.take k = t := by
          have := List.take_append_drop k t
          rw [hd, List.append_nil] at this
          exact this
        rw [h1] at htk
        rw [htk]
        rfl
    | cons c cs =>
      left
      rw [hd] at hdue
      have e : ((k : Int) < (t.length : Int)) := by
        have := (drop_get hd).2.1
        omega
      refine ⟨k, [some (.str (S t)), some (.ref 0), some (.int k), some v], μ, ?_, hdue.trans (by simp [tailF, aft])⟩
      unfold read_value_o1 bad
      generalize S t = Z at *
      rcases hform with ⟨_, rfl⟩ | ⟨_, rfl⟩ | ⟨ds, rfl⟩ <;> simp [l1, e, DL.plainL, DL.plain]
  | succ n ih =>
    intro st ids μ k v f hn hf hn100 hS htk hk hG hv hdue
    have hne : st ≠ [] := by intro e; subst e; simp at hn
    obtain ⟨st0, fr, rfl⟩ : ∃ st0 fr, st = st0 ++ [fr] := ⟨st.dropLast, st.getLast hne, (List.dropLast_concat_getLast hne).symm⟩
    obtain ⟨ids0, i, rfl⟩ := hS.split
    have hn0 : st0.length = n := by simpa using hn
    obtain ⟨f, rfl⟩ : ∃ f', f = f' + 1 := ⟨f - 1, by omega⟩
    have e1 : read_value_t1 [some (.str (S t)), some (.ref 0), some (.int k), some v] μ = some (.ok true, μ) := by
      unfold read_value_t1
      have := tru_stk hS
      simp [this]
    have hfr : fr.length ≤ 100000 := by
      have h1 := congrArg List.length htk
      have h2 := preF_len fr
      rw [pre_snoc] at h1
      simp at h1
      omega
    have hS' : Stk 0 (μ.set i (.lst (fr ++ [v]))) (ids0 ++ [i]) (st0 ++ [fr ++ [v]]) := hS.app
    have hv99 : Good (99 - st0.length) v := by
      rw [hn0]
      rwa [show 100 - (n + 1) = 99 - n by omega] at hv
    have hfrg : ∀ d ∈ fr ++ [v], Good (99 - st0.length) d := fun d hd => by
      rcases List.mem_append.mp hd with q | q
      · exact hG.last d q
      · rw [List.mem_singleton.mp q]; exact hv99
    unfold whF
    rw [e1]
    simp only
    rcases b1_go hS hfr (good_form hv) hl ht hk with ⟨hd, sd, μ', e⟩ | ⟨c, cs, hd, h32, h41, sd, μ', e⟩ | ⟨cs, hd, e⟩ | ⟨cs, hd, e⟩
    · left; left
      rw [hd] at hdue
      refine ⟨k, sd, μ', by rw [e], hdue.trans (by simp [tailF])⟩
    · left; left
      rw [hd] at hdue
      refine ⟨k, sd, μ', by rw [e], hdue.trans (by simp [tailF, aft, h32, h41])⟩
    · right
      rw [hd] at hdue
      obtain ⟨hg, hk2, hd2⟩ := drop_get hd
      refine ⟨k + 1, st0 ++ [fr ++ [v]], ids0 ++ [i], v, _, by rw [e], hS', ⟨?_, by omega, hG.init.snoc hfrg, by simp; omega, ?_⟩, by omega⟩
      · rw [take_next hd, htk, pre_snoc, pre_snoc]
        simp [preF]
      · refine hdue.trans ?_
        rw [tailF_32, hd2]
        simp [hn0]
    · rw [hd] at hdue
      obtain ⟨hg, hk2, hd2⟩ := drop_get hd
      rw [e]
      simp only
      have hgt : Good (100 - n) (.tup (fr ++ [v])) := by
        rw [hn0] at hfrg
        rw [show 100 - n = (99 - n) + 1 by omega]
        exact hfrg
      have r := ih st0 ids0 _ (k + 1) (.tup (fr ++ [v])) f hn0 (by omega) (by omega) hS'.pop (by
        rw [take_next hd, htk, pre_snoc, wr_snoc]
        simp) (by omega) hG.init hgt (by
        refine hdue.trans ?_
        rw [tailF_41, hd2])
      rcases r with r | ⟨k', st', ids', v', μ', h1, h2, h3, h4⟩
      · exact .inl r
      · exact .inr ⟨k', st', ids', v', μ', h1, h2, h3, by omega⟩
theorem len_stk {μ : Mem} {ids : List Nat} {st : List (List D)} (h : Stk 0 μ ids st) : gLen μ [.ref 0] = some (.int st.length) := by
  rw [len_any (ds := ids.map D.ref) (by rw [lsA_ref, isl_ref, h.top])]
  simp [h.len]
/-- the outer loop's body -/
theorem body (t : List Nat) (hl : t.length ≤ 100000) (ht : ∀ x ∈ t, x < 0x110000) {μ : Mem} {ids : List Nat} {st : List (List D)} {k : Nat} {ov : Option D} (hS : Stk 0 μ ids st) (hH : Head t k st) :
    Done t (read_value_b2 [some (.str (S t)), some (.ref 0), some (.int k), ov] μ) ∨
    ∃ fl k' st' ids' v' μ', read_value_b2 [some (.str (S t)), some (.ref 0), some (.int k), ov] μ = some (fl, [some (.str (S t)), some (.ref 0), some (.int (k' : Nat)), v'], μ') ∧ (fl = .nx ∨ fl = .ct) ∧ Stk 0 μ' ids' st' ∧ Head t k' st' ∧ k < k' := by
  have l1 := fun μ => lenS (μ := μ) hl
  have ln := len_stk hS
  -- what follows a value
  have go : ∀ (e : Nat) (v : D), Good (100 - st.length) v → k < e → e ≤ t.length → t.take e = pre st ++ wr v → due0 t = tailF st.length (t.drop e) e →
      Done t (read_value_l1 [some (.str (S t)), some (.ref 0), some (.int (e : Nat)), some v] μ) ∨ ∃ fl k' st' ids' v' μ', read_value_l1 [some (.str (S t)), some (.ref 0), some (.int (e : Nat)), some v] μ = some (fl, [some (.str (S t)), some (.ref 0), some (.int (k' : Nat)), v'], μ') ∧ (fl = .nx ∨ fl = .ct) ∧ Stk 0 μ' ids' st' ∧ Head t k' st' ∧ k < k' := by
    intro e v hv hke he htk hdue
    rcases innerL t hl ht st.length st ids μ e v fuel rfl (by have := hH.few; unfold fuel; omega) hH.few hS htk he hH.good hv hdue with r | ⟨k', st', ids', v', μ', h1, h2, h3, h4⟩
    · exact .inl r
    · exact .inr ⟨.nx, k', st', ids', some v', μ', h1, .inl rfl, h2, h3, by omega⟩
  cases hd : t.drop k with
  | nil =>
    left; left
    have hdue := hH.due
    rw [hd] at hdue
    have e : (k : Int) = (t.length : Int) := by
      have := congrArg List.length hd
      have q := hH.le
      simp at this
      omega
    refine ⟨k, [some (.str (S t)), some (.ref 0), some (.int k), ov], μ, ?_, hdue.trans (by simp [dueF, fin])⟩
    unfold read_value_b2 bad
    generalize S t = Z at *
    generalize read_value_l1 = L at *
    simp [l1, e, DL.plainL, DL.plain]
  | cons c cs =>
    obtain ⟨hg, hk2, hd2⟩ := drop_get hd
    have hc : c < 0x110000 := ht c (List.mem_of_getElem? hg)
    have i1 := fun μ => ixS (μ := μ) hg hl
    have hdue := hH.due
    have hne : ¬ ((k : Int) = (t.length : Int)) := by omega
    have k40 : ∀ μ, gEqD true μ (.str ⟨#[c]⟩) (.str "(") = some (.bl (!decide (c = 40))) := fun μ => by rw [chE hc true "(" 40 (by decide +kernel) (by decide)]; rfl
    by_cases h40 : c = 40
    · subst h40
      have hcast : ((k + 1 : Nat) : Int) = (k : Int) + 1 := by omega
      by_cases h100 : st.length = 100
      · left; left
        rw [hd] at hdue
        have e100 : ((st.length : Int) = 100) := by omega
        refine ⟨k, [some (.str (S t)), some (.ref 0), some (.int k), ov], μ, ?_, hdue.trans ?_⟩
        · unfold read_value_b2 bad
          generalize S t = Z at *
          generalize (⟨#[40]⟩ : Str) = C at *
          generalize read_value_l1 = L at *
          simp [l1, ln, i1, k40, hne, e100, DL.plainL, DL.plain]
        · have : step ⟨.start, st.length, 0⟩ 40 = none := by
            have w1 : ¬ isD 40 := by decide
            have w6 : ¬ isL 40 := by decide
            simp [step, begin_, h100, w1, w6]
          simp [dueF, this]
      · have e100 : ¬ ((st.length : Int) = 100) := by omega
        have hlt : st.length < 100 := by have := hH.few; omega
        have st40 := step_open hlt
        have hdue1 : due0 t = dueF ⟨.first, st.length + 1, 0⟩ (t.drop (k + 1)) (k + 1) := by
          refine hdue.trans ?_
          rw [hd]
          conv => lhs; unfold dueF
          rw [st40, hd2]
        have push : (∀ c cs', t.drop (k + 1) = c :: cs' → c ≠ 41) → Head t (k + 1) (st ++ [[]]) := fun h41 => by
          refine ⟨by rw [take_next hd, hH.tk, pre_snoc]; rfl, by omega, hH.good.snoc (fun d hd => by simp at hd), by simp; omega, ?_⟩
          refine hdue1.trans ?_
          rw [due_first _ _ _ h41]
          simp
        have isl0 : isLst μ (.ref 0) = some (ids.map D.ref) := by rw [isl_ref, hS.top]
        have app0 : muAppend (μ ++ [MO.lst []]) (.ref 0) [.ref μ.length] = some (.non, (μ ++ [MO.lst []]).set 0 (.lst (ids.map D.ref ++ [D.ref μ.length]))) := by
          have h0 : 0 < μ.length := (List.getElem?_eq_some_iff.mp hS.top).1
          refine app_ref ?_ (by have := hH.few; have := hS.len; simp; omega) rfl
          rw [List.getElem?_append_left h0]
          exact hS.top
        have hS2 := hS.push
        cases hd3 : t.drop (k + 1) with
        | nil =>
          right
          have e : (k : Int) + 1 = (t.length : Int) := by
            have := congrArg List.length hd3
            simp at this
            omega
          refine ⟨.ct, k + 1, st ++ [[]], ids ++ [μ.length], ov, _, ?_, .inr rfl, hS2, push (fun c cs' q => by rw [hd3] at q; cases q), by omega⟩
          unfold read_value_b2
          rw [hcast]
          generalize S t = Z at *
          generalize (⟨#[40]⟩ : Str) = C at *
          generalize read_value_l1 = L at *
          generalize (μ ++ [MO.lst []]).set 0 (.lst (ids.map D.ref ++ [D.ref μ.length])) = μ2 at *
          simp [l1, ln, i1, k40, hne, e100, e, isl0, app0, -isl_ref]
        | cons c2 cs2 =>
          obtain ⟨hg2, hk3, hd4⟩ := drop_get hd3
          have hc2 : c2 < 0x110000 := ht c2 (List.mem_of_getElem? hg2)
          have i2 := fun μ => ixS (μ := μ) hg2 hl
          have k41 : ∀ μ, gEqD true μ (.str ⟨#[c2]⟩) (.str ")") = some (.bl (!decide (c2 = 41))) := fun μ => by rw [chE hc2 true ")" 41 (by decide +kernel) (by decide)]; rfl
          have e : ¬ ((k : Int) + 1 = (t.length : Int)) := by omega
          rw [hcast] at i2
          by_cases h41 : c2 = 41
          · subst h41
            have hcast2 : ((k + 1 + 1 : Nat) : Int) = (k : Int) + 1 + 1 := by omega
            have tk : t.take (k + 1 + 1) = pre st ++ wr (.tup []) := by
              rw [take_next hd3, take_next hd, hH.tk]
              simp [wr, wrL, TL.joinL]
            have du : due0 t = tailF st.length (t.drop (k + 1 + 1)) (k + 1 + 1) := by
              refine hdue1.trans ?_
              rw [hd3]
              conv => lhs; unfold dueF
              rw [show step ⟨.first, st.length + 1, 0⟩ 41 = some ⟨.after, st.length, 0⟩ by simp [step]]
              simp only
              rw [due_after, hd4]
            have r := go (k + 1 + 1) (.tup []) (by rw [show 100 - st.length = (99 - st.length) + 1 by omega]; exact fun d hd => by simp at hd) (by omega) (by omega) tk du
            have hb : read_value_b2 [some (.str (S t)), some (.ref 0), some (.int k), ov] μ = read_value_l1 [some (.str (S t)), some (.ref 0), some (.int ((k + 1 + 1 : Nat) : Int)), some (.tup [])] μ := by
              unfold read_value_b2
              rw [hcast2]
              clear r tk du
              generalize S t = Z at *
              generalize (⟨#[40]⟩ : Str) = C at *
              generalize (⟨#[41]⟩ : Str) = C2 at *
              generalize read_value_l1 = L at *
              simp [l1, ln, i1, i2, k40, k41, hne, e100, e, -isl_ref]
            rw [hb]
            exact r
          · right
            refine ⟨.ct, k + 1, st ++ [[]], ids ++ [μ.length], ov, _, ?_, .inr rfl, hS2, push (fun c cs' q => by rw [hd3] at q; cases q; exact h41), by omega⟩
            unfold read_value_b2
            rw [hcast]
            generalize S t = Z at *
            generalize (⟨#[40]⟩ : Str) = C at *
            generalize (⟨#[c2]⟩ : Str) = C2 at *
            generalize read_value_l1 = L at *
            generalize (μ ++ [MO.lst []]).set 0 (.lst (ids.map D.ref ++ [D.ref μ.length])) = μ2 at *
            simp [l1, ln, i1, i2, k40, k41, h41, hne, e100, e, isl0, app0, -isl_ref]
    · rcases read_plain_eq t k c st.length cs hl ht hd h40 with ⟨at_, e1, e2⟩ | ⟨v, e, e1, h1, h2, h3, h4, h5⟩
      · left; left
        rw [hd] at hdue
        refine ⟨at_, [some (.str (S t)), some (.ref 0), some (.int k), ov], μ, ?_, hdue.trans e2⟩
        unfold read_value_b2
        generalize S t = Z at *
        generalize (⟨#[c]⟩ : Str) = C at *
        generalize read_value_l1 = L at *
        generalize bad at_ = B at *
        simp [l1, ln, i1, k40, h40, hne, e1]
      · rw [hd] at hdue
        have tk : t.take e = pre st ++ wr v := by
          have : t.take e = t.take k ++ (t.drop k).take (e - k) := by
            rw [← List.take_add, show k + (e - k) = e by omega]
          rw [this, hH.tk, h4]
        have r := go e v (h3.le (Nat.zero_le _)) h1 h2 tk (hdue.trans h5)
        have hb : read_value_b2 [some (.str (S t)), some (.ref 0), some (.int k), ov] μ = read_value_l1 [some (.str (S t)), some (.ref 0), some (.int (e : Nat)), some v] μ := by
          unfold read_value_b2
          clear r tk go h4
          generalize S t = Z at *
          generalize (⟨#[c]⟩ : Str) = C at *
          generalize read_value_l1 = L at *
          rcases good_form h3 with ⟨_, rfl⟩ | ⟨_, rfl⟩ | ⟨ds, rfl⟩ <;> simp [l1, ln, i1, k40, h40, hne, e1]
        rw [hb]
        exact r
theorem outer (t : List Nat) (hl : t.length ≤ 100000) (ht : ∀ x ∈ t, x < 0x110000) : ∀ (f : Nat) (μ : Mem) (ids : List Nat) (st : List (List D)) (k : Nat) (ov : Option D), t.length - k < f → Stk 0 μ ids st → Head t k st →
    Done t (whF read_value_t2 read_value_b2 read_value_o2 f [some (.str (S t)), some (.ref 0), some (.int k), ov] μ) := by
  intro f
  induction f with
  | zero => intro _ _ _ _ _ h; omega
  | succ f ih =>
    intro μ ids st k ov hf hS hH
    have e1 : read_value_t2 [some (.str (S t)), some (.ref 0), some (.int k), ov] μ = some (.ok true, μ) := by
      unfold read_value_t2
      simp
    unfold whF
    rw [e1]
    simp only
    rcases body t hl ht (ov := ov) hS hH with r | ⟨fl, k', st', ids', v', μ', h1, h2, h3, h4, h5⟩
    · rcases r with ⟨at_, sd, μ', e, d⟩ | ⟨v, sd, μ', e, g⟩
      · rw [e]; exact .inl ⟨at_, sd, μ', rfl, d⟩
      · rw [e]; exact .inr ⟨v, sd, μ', rfl, g⟩
    · have := h4.le
      rw [h1]
      rcases h2 with rfl | rfl
      · exact ih μ' ids' st' k' v' (by omega) h3 h4
      · exact ih μ' ids' st' k' v' (by omega) h3 h4
theorem read_value_eq (t : List Nat) (hl : t.length ≤ 100000) (ht : ∀ x ∈ t, x < 0x110000) :
    (∃ at_, m_read_value [.str (S t)] = some (.error (bad at_)) ∧ due0 t = some at_) ∨ (∃ v, m_read_value [.str (S t)] = some (.ok v) ∧ Good 100 v ∧ wr v = t ∧ due0 t = none) := by
  have h := outer t hl ht fuel [.lst []] [] [] 0 none (by unfold fuel; omega) ⟨rfl, rfl, by simp, fun i hi => by simp at hi, fun j i fr q => by simp at q⟩ ⟨rfl, Nat.zero_le _, fun j fr q => by simp at q, by simp, by simp⟩
  unfold m_read_value b_read_value
  have h : Done t (read_value_l2 [some (.str (S t)), some (.ref 0), some (.int 0), none] [.lst []]) := h
  generalize S t = Z at *
  generalize read_value_l2 = L at *
  rcases h with ⟨at_, sd, μ', e, d⟩ | ⟨v, sd, μ', e, g1, g2, g3⟩
  · exact .inl ⟨at_, by simp [e], d⟩
  · exact .inr ⟨v, by simp [e], g1, g2, g3⟩
end LK
set_option Elab.async false
set_option linter.all false
set_option maxRecDepth 100000
set_option maxHeartbeats 4000000
namespace LK
open PySem PySem.Spec PyProof.Rows L2 DL
theorem inF (μ : Mem) (m : Mo) : gInA false μ (.str m.s) (.tup [.str "word", .str "digits", .str "zero", .str "after"]) = some (.bl (fin m)) := by
  unfold gInA
  rw [show gInS false μ (.str m.s) (.tup [.str "word", .str "digits", .str "zero", .str "after"]) = none from rfl, Option.none_or]
  cases m <;> kernel_rfl
theorem step_inv {a b : AS} {c : Nat} (h : step a c = some b) (ha : a.m = .first → 1 ≤ a.d) : b.m = .first → 1 ≤ b.d := by
  obtain ⟨m, d, r⟩ := a
  intro hb
  unfold step at h
  cases m <;> simp only [begin_, afterV] at h <;> (repeat' split at h) <;> first | (cases h; simp at hb) | cases h
  all_goals simp_all
theorem step_d {a b : AS} {c : Nat} (h : step a c = some b) (hd : a.d ≤ 100) : b.d ≤ 100 := by
  obtain ⟨m, d, r⟩ := a
  simp only at hd
  unfold step at h
  cases m <;> simp only [begin_, afterV] at h <;> (repeat' split at h) <;> first | (cases h; simp; omega) | (cases h; assumption) | cases h
def encR (t : List Nat) : Option Nat → D
  | none => .non
  | some k => .int k
theorem due_loop (t : List Nat) (hl : t.length ≤ 100000) (ht : ∀ x ∈ t, x < 0x110000) : ∀ (m k : Nat) (a : AS) (o : Option D), k + m = t.length → (a.m = .first → 1 ≤ a.d) →
    (∃ at_ sd, loopF (fun _ => True) (gD 2) _law_due_b1 ((List.range' k m).map fun i : Nat => D.int i) [some (.str (S t)), some a.e, o] [] = some (.ret (.int (at_ : Nat)), sd, []) ∧ dueF a (t.drop k) k = some at_) ∨
    (∃ (b : AS) (o' : Option D), loopF (fun _ => True) (gD 2) _law_due_b1 ((List.range' k m).map fun i : Nat => D.int i) [some (.str (S t)), some a.e, o] [] = some (.nx, [some (.str (S t)), some b.e, o'], []) ∧ dueF a (t.drop k) k = if b.d = 0 ∧ fin b.m = true then none else some t.length) := by
  intro m
  induction m with
  | zero =>
    intro k a o hk ha
    right
    have : t.drop k = [] := by simp; omega
    rw [this]
    exact ⟨a, o, rfl, by rw [show k = t.length by omega]; rfl⟩
  | succ m ih =>
    intro k a o hk ha
    have hkt : k < t.length := by omega
    have hg : t[k]? = some t[k] := List.getElem?_eq_getElem hkt
    have hd : t.drop k = t[k] :: t.drop (k + 1) := List.drop_eq_getElem_cons hkt
    have hc : t[k] < 0x110000 := ht _ (List.getElem_mem hkt)
    have i1 := ixS (μ := []) hg hl
    have e1 := step_eq a.m a.d a.r t[k] hc ha
    rw [hd]
    generalize t[k] = c at *
    have e1 : m__law_step [a.e, .str ⟨#[c]⟩] = some (.ok (encO (step a c))) := e1
    have arg : argD [] a.e = some a.e := argD_tup rfl
    have hts : D.str ⟨#[c]⟩ = D.str ⟨#[c]⟩ := rfl
    rw [List.range'_succ, List.map_cons]
    have hgd : gD 2 [some (.str (S t)), some a.e, o] [] (.int k) = some ([some (.str (S t)), some a.e, some (.int k)], []) := rfl
    unfold loopF
    rw [hgd]
    simp only
    have ae : ∃ ds, a.e = .tup ds := ⟨_, rfl⟩
    cases hs : step a c with
    | none =>
      left
      rw [hs] at e1
      have hb : _law_due_b1 [some (.str (S t)), some a.e, some (.int k)] [] = some (.ret (.int k), [some (.str (S t)), some .non, some (.int k)], []) := by
        unfold _law_due_b1
        have e1 : m__law_step [a.e, .str ⟨#[c]⟩] = some (.ok .non) := e1
        obtain ⟨ds, q⟩ := ae
        rw [q] at e1 arg ⊢
        generalize S t = Z at *
        generalize (⟨#[c]⟩ : Str) = C at *
        simp [i1, e1, arg]
      rw [hb]
      exact ⟨k, _, rfl, by simp [dueF, hs]⟩
    | some b =>
      rw [hs] at e1
      have hb : _law_due_b1 [some (.str (S t)), some a.e, some (.int k)] [] = some (.nx, [some (.str (S t)), some b.e, some (.int k)], []) := by
        unfold _law_due_b1
        have e1 : m__law_step [a.e, .str ⟨#[c]⟩] = some (.ok b.e) := e1
        have be : ∃ ds, b.e = .tup ds := ⟨_, rfl⟩
        obtain ⟨ds, q⟩ := ae
        obtain ⟨ds2, q2⟩ := be
        rw [q] at e1 arg ⊢
        rw [q2] at e1 ⊢
        generalize S t = Z at *
        generalize (⟨#[c]⟩ : Str) = C at *
        simp [i1, e1, arg]
      rw [hb]
      simp only [if_true]
      rcases ih (k + 1) b (some (.int k)) (by omega) (step_inv hs ha) with ⟨at_, sd, h1, h2⟩ | ⟨b', o', h1, h2⟩
      · exact .inl ⟨at_, sd, h1, by simp [dueF, hs, h2]⟩
      · exact .inr ⟨b', o', h1, by simp only [dueF, hs]; exact h2⟩
def encDue (o : Option Nat) : D := match o with
  | none => .non
  | some k => .int k
theorem due_eq (t : List Nat) (hl : t.length ≤ 100000) (ht : ∀ x ∈ t, x < 0x110000) : m__law_due [.str (S t)] = some (.ok (encDue (due0 t))) := by
  have h := due_loop t hl ht t.length 0 ⟨.start, 0, 0⟩ none (by omega) (by simp)
  have l1 := fun μ => lenS (μ := μ) hl
  have hr : _law_due_l1 [some (.str (S t)), some (AS.e ⟨.start, 0, 0⟩), none] [] = loopF (fun _ => True) (gD 2) _law_due_b1 ((List.range' 0 t.length).map fun i : Nat => D.int i) [some (.str (S t)), some (AS.e ⟨.start, 0, 0⟩), none] [] := by
    unfold _law_due_l1
    rw [sFor_of (iR1_of (n := t.length) (by generalize S t = Z at *; simp [l1]) hl), List.range_eq_range']
  rw [← hr] at h
  have h : (∃ at_ sd, _law_due_l1 [some (.str (S t)), some (.tup [.str "start", .int 0, .int 0]), none] [] = some (.ret (.int (at_ : Nat)), sd, []) ∧ due0 t = some at_) ∨
    (∃ (b : AS) (o' : Option D), _law_due_l1 [some (.str (S t)), some (.tup [.str "start", .int 0, .int 0]), none] [] = some (.nx, [some (.str (S t)), some b.e, o'], []) ∧ due0 t = if b.d = 0 ∧ fin b.m = true then none else some t.length) := h
  unfold m__law_due b__law_due
  rcases h with ⟨at_, sd, h1, h2⟩ | ⟨b, o', h1, h2⟩
  · rw [h2]
    generalize S t = Z at *
    simp [h1, encDue]
  · rw [h2]
    have i0 : ∀ μ, gIx μ b.e (.int 0) = some (.str b.m.s) := fun μ => gIx_int (.inl rfl) rfl (by intro es e; cases e)
    have i1 : ∀ μ, gIx μ b.e (.int 1) = some (.int b.d) := fun μ => gIx_int (.inl rfl) rfl (by intro es e; cases e)
    have hF := fun μ => inF μ b.m
    have be : ∃ ds, b.e = .tup ds := ⟨_, rfl⟩
    obtain ⟨ds, q⟩ := be
    rw [q] at i0 i1 h1
    generalize b.m.s = BM at *
    generalize S t = Z at *
    by_cases hb : b.d = 0
    · cases hf : fin b.m with
      | true => rw [hf] at hF; simp [h1, i0, i1, hb, hF, encDue]
      | false => rw [hf] at hF; simp [h1, i0, i1, hb, hF, encDue, l1]
    · have hb' : ¬ ((b.d : Int) = 0) := by omega
      simp [h1, i0, i1, hb, hb', encDue, l1]
theorem strOk_S {t : List Nat} (ht : ∀ x ∈ t, x < 0x110000) : PyData.strOk (S t) = true := by
  unfold PyData.strOk
  rw [← Array.all_toList, List.all_eq_true]
  intro c hc
  exact decide_eq_true (ht c hc)
theorem eqS {μ : Mem} {t u : List Nat} {n : Bool} (ht : ∀ x ∈ t, x < 0x110000) (hu : ∀ x ∈ u, x < 0x110000) : gEqD n μ (.str (S t)) (.str (S u)) = some (.bl (if n then !decide (t = u) else decide (t = u))) := by
  rw [eqs (strOk_S ht) (strOk_S hu)]
  have : (S t = S u) ↔ t = u := ⟨fun h => SX.S_inj h, fun h => by rw [h]⟩
  simp only [this]
theorem lk1 : exT "BadText" "BadName" = some false := by kernel_rfl
theorem lk2 : exT "BadText" "BadText" = some true := by kernel_rfl
theorem lk3 : xfT "BadText" "at" = true := by kernel_rfl
theorem lk4 : exT "BadText" "BookError" = some true := by kernel_rfl
theorem as_due (t : List Nat) (hl : t.length ≤ 100000) (ht : ∀ x ∈ t, x < 0x110000) : m__law_read_as_due [.str (S t)] = some (.ok (.bl true)) := by
  have hd := due_eq t hl ht
  rcases read_value_eq t hl ht with ⟨at_, h1, h2⟩ | ⟨v, h1, h2, h3, h4⟩
  · rw [h2] at hd
    have hd : m__law_due [.str (S t)] = some (.ok (.int at_)) := hd
    unfold m__law_read_as_due b__law_read_as_due
    generalize S t = Z at *
    have hb : sAsg (eOwn (eCall (m_read_value) 1 (eCons (eV 0) (eNil)))) (gD 2) [some (.str Z), some (.int at_), none, none, none] [] = some (.exc (bad at_), [some (.str Z), some (.int at_), none, none, none], []) := by
      generalize bad at_ = B at *
      simp [h1]
    have hh : ∀ a d : Addr, finS 3 (_law_read_as_due_h1 a d (bad at_) [some (.str Z), some (.int at_), none, some (.exh a d "BadText" [("at", .int at_)]), none] []) = some (.ret (.bl true), [some (.str Z), some (.int at_), none, none, some (.int at_)], []) := by
      intro a d
      unfold _law_read_as_due_h1
      have hx : eXf xfT a d (bad at_) "at" (eV 3) [some (.str Z), some (.int at_), none, some (.exh a d "BadText" [("at", .int at_)]), none] [] = some (.ok (.int at_), []) := by
        unfold eXf
        rw [show (bad at_).cls = "BadText" from rfl, lk3, if_pos rfl]
        simp [bE, notNew, List.lookup]
      generalize bad at_ = B at *
      simp [hx, finS]
    have hp : pickS exT [⟨"BadName", none, _law_read_as_due_h2⟩, ⟨"BadText", some 3, _law_read_as_due_h1⟩] (bad at_) [some (.str Z), some (.int at_), none, none, none] [] = some (.ret (.bl true), [some (.str Z), some (.int at_), none, none, some (.int at_)], []) := by
      unfold pickS
      rw [show (bad at_).cls = "BadText" from rfl]
      simp only [lk1]
      unfold pickS
      rw [show (bad at_).cls = "BadText" from rfl]
      simp only [lk2]
      refine Eq.trans (when_t ?_) ?_
      · exact fun a d => (hh a d).trans (hh 0 0).symm
      · exact hh 0 0
    have ht : sTry exT (sAsg (eOwn (eCall (m_read_value) 1 (eCons (eV 0) (eNil)))) (gD 2)) [⟨"BadName", none, _law_read_as_due_h2⟩, ⟨"BadText", some 3, _law_read_as_due_h1⟩] [some (.str Z), some (.int at_), none, none, none] [] = some (.ret (.bl true), [some (.str Z), some (.int at_), none, none, some (.int at_)], []) := by
      unfold sTry
      rw [hb]
      exact hp
    generalize sTry exT (sAsg (eOwn (eCall (m_read_value) 1 (eCons (eV 0) (eNil)))) (gD 2)) [⟨"BadName", none, _law_read_as_due_h2⟩, ⟨"BadText", some 3, _law_read_as_due_h1⟩] = TT at *
    simp [hd, ht]
  · rw [h4] at hd
    have hd : m__law_due [.str (S t)] = some (.ok .non) := hd
    have hw : m__law_write 110 [v] = some (.ok (.str (S t))) := by
      rw [write_eq, text_eq 109 v (h2.le (by omega)) (by rw [h3]; exact hl), h3]
    have hs : m__law_same 110 [v, v] = some (.ok (.bl true)) := same_self 109 v (h2.le (by omega)) (by rw [h3]; exact hl)
    have he : ∀ μ, gEqD false μ (.str (S t)) (.str (S t)) = some (.bl true) := fun μ => by rw [eqS ht ht]; simp
    have ok := good_ok _ _ h2
    have ha := arg_plain (μ := []) ok.1
    unfold m__law_read_as_due b__law_read_as_due
    clear h3
    generalize S t = Z at *
    have htr : sTry exT (sAsg (eOwn (eCall (m_read_value) 1 (eCons (eV 0) (eNil)))) (gD 2)) [⟨"BadName", none, _law_read_as_due_h2⟩, ⟨"BadText", some 3, _law_read_as_due_h1⟩] [some (.str Z), some .non, none, none, none] [] = some (.nx, [some (.str Z), some .non, some v, none, none], []) := by
      unfold sTry
      have hb : sAsg (eOwn (eCall (m_read_value) 1 (eCons (eV 0) (eNil)))) (gD 2) [some (.str Z), some .non, none, none, none] [] = some (.nx, [some (.str Z), some .non, some v, none, none], []) := by
        rcases good_form h2 with ⟨_, rfl⟩ | ⟨_, rfl⟩ | ⟨ds, rfl⟩ <;> simp [h1]
      rw [hb]
    generalize sTry exT (sAsg (eOwn (eCall (m_read_value) 1 (eCons (eV 0) (eNil)))) (gD 2)) [⟨"BadName", none, _law_read_as_due_h2⟩, ⟨"BadText", some 3, _law_read_as_due_h1⟩] = TT at *
    generalize hW : m__law_write 110 = W at *
    generalize hSm : m__law_same 110 = SM at *
    rcases good_form h2 with ⟨_, rfl⟩ | ⟨_, rfl⟩ | ⟨ds, rfl⟩ <;> simp [hd, htr, hw, he, ha, h1, hs]
end LK
set_option Elab.async false
set_option linter.all false
set_option maxRecDepth 100000
set_option maxHeartbeats 4000000
namespace LK
open PySem PySem.Spec PyProof.Rows L2 DL
/-! ### _law_word -/
def LT : List Nat := List.range' 97 26
theorem LT_S : ("abcdefghijklmnopqrstuvwxyz" : Str) = S LT := by decide +kernel
theorem join0 {μ : Mem} {cs : List Nat} (hl : cs.length ≤ 1000) : gJoin μ (.str "") [.new (cs.map fun c => D.str (S [c]))] = some (.str (S cs)) := by
  have key : ∀ cs : List Nat, allD strD (cs.map fun c => D.str (S [c])) = some (cs.map fun c => S [c]) := fun cs => by
    induction cs with
    | nil => rfl
    | cons y ys ih => show ((strD (D.str (S [y]))).bind fun i => (allD strD (ys.map fun c => D.str (S [c]))).map fun is => i :: is) = _; rw [ih]; rfl
  have e1 : ∀ cs : List Nat, ((cs.map fun c => S [c]).map (·.length)).sum = cs.length := fun cs => by
    induction cs with
    | nil => rfl
    | cons y ys ih => simp only [List.map_cons, List.sum_cons, ih, S_len, List.length_cons, List.length_nil]; omega
  have e3 : ∀ cs : List Nat, TL.joinL [] (cs.map fun c => [c]) = cs := fun cs => by
    induction cs with
    | nil => rfl
    | cons y ys ih =>
      cases ys with
      | nil => rfl
      | cons z zs => show [y] ++ ([] ++ TL.joinL [] ((z :: zs).map fun c => [c])) = _; rw [ih]; rfl
  show ((sqAny μ (.new (cs.map fun c => D.str (S [c])))).bind fun es => (allD strD es).bind fun ys => when_ ((ys.map (·.length)).sum + ys.length * ("" : Str).length ≤ 16777216) (some (D.str (Txt.join "" ys)))) = _
  rw [show sqAny μ (.new (cs.map fun c => D.str (S [c]))) = some (cs.map fun c => D.str (S [c])) from rfl, Option.bind_some, key, Option.bind_some, when_t (by
    rw [e1]
    have : ("" : Str).length = 0 := by decide +kernel
    rw [this]
    omega)]
  have e2 : ("" : Str) = S [] := by decide +kernel
  have e4 : (cs.map fun c => S [c]) = (cs.map fun c => [c]).map S := by rw [List.map_map]; rfl
  rw [e2, e4, SX.join_S, e3]
theorem word_eq (c : Int) : ∃ w : List Nat, m__law_word [.int c] = some (.ok (.str (S w))) ∧ 1 ≤ w.length ∧ w.length ≤ 20 ∧ ∀ x ∈ w, isL x := by
  obtain ⟨l, h1, h2, h3⟩ := draws_eq c 21 (by decide)
  have h1 : m__law_draws [.int c, .int 21] = some (.ok (.new (l.map D.int))) := h1
  have hl0 : l.getD 0 0 = l[0]'(by omega) := by simp [List.getD, h2]
  obtain ⟨q0, q1⟩ := h3 _ (List.getElem_mem (show 0 < l.length by omega))
  obtain ⟨n, hn⟩ := Int.eq_ofNat_of_zero_le (show 0 ≤ 1 + (l.getD 0 0) % 20 by omega)
  have n1 : 1 ≤ n := by omega
  have n2 : n ≤ 20 := by omega
  let ch : Nat → Nat := fun k => 97 + ((l.getD (k + 1) 0 + k) % 26).toNat
  refine ⟨(List.range n).map ch, ?_, by simpa using n1, by simpa using n2, fun x hx => ?_⟩
  · have i0 : ∀ μ, μ[0]? = some (MO.lst (l.map D.int)) → ∀ k : Nat, k < 21 → gIx μ (.ref 0) (.int k) = some (.int (l.getD k 0)) := fun μ hm k hk => by
      have := ix_int (μ := μ) (x := .ref 0) (l := l) (i := (k : Int)) (.inr (by rw [lsA_ref, isl_ref, hm])) (by omega) (by omega)
      simpa using this
    have hc : _law_word_c1 [some (.int c), some (.str (S LT)), some (.ref 0), none] [.lst (l.map D.int)] = some (.ok (.new (((List.range n).map ch).map fun c => D.str (S [c]))), [.lst (l.map D.int)]) := by
      have z := eLc_all (t := gD 3) (f := (eBin gIx (eV 1) (eBin gModI (eBin gAdd (eBin gIx (eV 2) (eBin gAdd (eV 3) (eC (.int 1)))) (eV 3)) (eC (.int 26))))) (vs := [3]) (sd := [some (.int c), some (.str (S LT)), some (.ref 0), none]) (μ := [.lst (l.map D.int)])
        (it := iR1 (eCons (eBin gAdd (eC (.int 1)) (eBin gModI (eBin gIx (eV 2) (eC (.int 0))) (eC (.int 20)))) (eNil))) (chk := fun _ => True) (ds := (List.range n).map fun i : Nat => D.int i) (List.range n) (fun i : Nat => D.int i) (fun i => D.str (S [ch i]))
        (iR1_of (n := n) (by
          have e0 := i0 [.lst (l.map D.int)] rfl 0 (by decide)
          have e1 : ∀ (μ : Mem) (i : Int), gModI μ (.int i) (.int 20) = some (.int (i % 20)) := fun μ i => mod_int (by decide)
          have e0 : gIx [.lst (l.map D.int)] (.ref 0) (.int 0) = some (.int (l.getD 0 0)) := e0
          generalize S LT = Z at *
          generalize l.getD 0 0 = X at *
          simp [e0, e1, hn]) (by omega)) rfl (by simp; omega) trivial (fun k hk => by
          have hk : k < n := by simpa using hk
          have e0 := i0 [.lst (l.map D.int)] rfl (k + 1) (by omega)
          have e1 : ∀ (μ : Mem) (i : Int), gModI μ (.int i) (.int 26) = some (.int (i % 26)) := fun μ i => mod_int (by decide)
          have hcast : ((k + 1 : Nat) : Int) = (k : Int) + 1 := by omega
          rw [hcast] at e0
          have e2 : ∀ μ, gIx μ (.str (S LT)) (.int ((l.getD (k + 1) 0 + k) % 26)) = some (.str (S [ch k])) := fun μ => by
            obtain ⟨m, hm⟩ := Int.eq_ofNat_of_zero_le (show 0 ≤ (l.getD (k + 1) 0 + k) % 26 by omega)
            have hm2 : m < 26 := by omega
            have hch : ch k = 97 + m := by show 97 + ((l.getD (k + 1) 0 + k) % 26).toNat = _; rw [hm]; rfl
            rw [hm, hch]
            exact ixS (by unfold LT; rw [List.getElem?_range' hm2]; simp) (by decide)
          refine ⟨[some (.int c), some (.str (S LT)), some (.ref 0), some (.int k)], rfl, ?_, rfl⟩
          generalize S LT = Z at *
          generalize S [ch k] = Y at *
          generalize l.getD (k + 1) 0 = X at *
          simp [e0, e1, e2])
      rw [List.map_map]
      exact z
    have hj := join0 (μ := [.lst (l.map D.int)]) (cs := (List.range n).map ch) (by simp; omega)
    unfold m__law_word b__law_word
    rw [LT_S]
    generalize S ((List.range n).map ch) = R at *
    generalize ((List.range n).map ch).map (fun c => D.str (S [c])) = CS at *
    generalize S LT = Z at *
    simp [h1, hc, eMs, hj, out_str]
  · obtain ⟨k, hk, rfl⟩ := List.mem_map.mp hx
    show isL (97 + ((l.getD (k + 1) 0 + k) % 26).toNat)
    unfold isL
    omega
/-! ### values, their sizes -/
def GoodN (N : Nat) (st : List (List D)) : Prop := ∀ (j : Nat) (fr : List D), st[j]? = some fr → ∀ d ∈ fr, Good (N - j) d
theorem GoodN.snoc {N : Nat} {st : List (List D)} {fr : List D} (h : GoodN N st) (h2 : ∀ d ∈ fr, Good (N - st.length) d) : GoodN N (st ++ [fr]) := fun j f q => by
  by_cases hj : j < st.length
  · rw [List.getElem?_append_left hj] at q
    exact h j f q
  · rw [List.getElem?_append_right (by omega)] at q
    have hf : f = fr := by
      have := List.mem_of_getElem? q
      simpa using this
    have hj2 : j = st.length := by
      have := (List.getElem?_eq_some_iff.mp q).1
      simp at this
      omega
    subst hf hj2
    exact h2
theorem GoodN.init {N : Nat} {st : List (List D)} {fr : List D} (h : GoodN N (st ++ [fr])) : GoodN N st := fun j f q => h j f (by rw [List.getElem?_append_left (List.getElem?_eq_some_iff.mp q).1]; exact q)
theorem GoodN.last {N : Nat} {st : List (List D)} {fr : List D} (h : GoodN N (st ++ [fr])) : ∀ d ∈ fr, Good (N - st.length) d := h st.length fr (by simp)
def costF (fr : List D) : Nat := (fr.map fun d => (wr d).length + 1).sum + 3
def cost (st : List (List D)) : Nat := (st.map costF).sum
theorem cost_snoc (st : List (List D)) (fr : List D) : cost (st ++ [fr]) = cost st + costF fr := by simp [cost]
theorem costF_snoc (fr : List D) (v : D) : costF (fr ++ [v]) = costF fr + (wr v).length + 1 := by simp [costF]; omega
theorem joinL_cost : ∀ fr : List D, (TL.joinL [32] (wrL fr)).length ≤ (fr.map fun d => (wr d).length + 1).sum
  | [] => by simp [wrL, TL.joinL]
  | [d] => by simp [wrL, TL.joinL]
  | d :: e :: fr => by
    have := joinL_cost (e :: fr)
    show (wr d ++ ([32] ++ TL.joinL [32] (wrL (e :: fr)))).length ≤ _
    rw [List.map_cons, List.sum_cons]
    simp at this ⊢
    omega
theorem wr_cost (fr : List D) : (wr (.tup fr)).length + 1 ≤ costF fr := by
  have := joinL_cost fr
  show (40 :: (TL.joinL [32] (wrL fr) ++ [41])).length + 1 ≤ _
  unfold costF
  simp
  omega
theorem mem_cost {fr : List D} {d : D} (h : d ∈ fr) : (wr d).length + 1 ≤ (fr.map fun d => (wr d).length + 1).sum := by
  induction fr with
  | nil => simp at h
  | cons x fr ih =>
    rw [List.map_cons, List.sum_cons]
    rcases List.mem_cons.mp h with rfl | q
    · omega
    · have := ih q; omega
theorem frame_small (fr : List D) : fr.length ≤ (fr.map fun d => (wr d).length + 1).sum := by
  induction fr with
  | nil => simp
  | cons x fr ih => rw [List.map_cons, List.sum_cons, List.length_cons]; omega
/-! ### _law_value's loops -/
section
variable {b : Nat} {μ : Mem} {ids : List Nat} {i : Nat} {st : List (List D)} {fr : List D} {v : D} {sd : Sl} {f : EE}
theorem app_go (h : Stk b μ (ids ++ [i]) (st ++ [fr])) (hsd : sd[1]? = some (some (.ref b))) (hfr : fr.length ≤ 100000) (hf : f sd μ = some (.ok v, μ)) (hv : (∃ i, v = .int i) ∨ (∃ z, v = .str z) ∨ ∃ ds, v = .tup ds) :
    sDrop (eMu muAppend (eBin gIx (eV 1) (eUn gNeg (eC (.int 1)))) (eCons f eNil)) sd μ = some (.nx, sd, μ.set i (.lst (fr ++ [v]))) := by
  have h1 := last_ix h
  have h2 : isLst μ (.ref i) = some fr := by rw [isl_ref, h.last]
  have h3 : muAppend μ (.ref i) [v] = some (.non, μ.set i (.lst (fr ++ [v]))) := app_ref h.last hfr (by rcases hv with ⟨_, rfl⟩ | ⟨_, rfl⟩ | ⟨_, rfl⟩ <;> rfl)
  generalize μ.set i (.lst (fr ++ [v])) = μ' at *
  simp [hsd, h1, h2, h3, hf, -isl_ref]
theorem pop_go {i2 : Nat} {fr2 : List D} (h : Stk b μ (ids ++ [i] ++ [i2]) (st ++ [fr] ++ [fr2])) (hsd : sd[1]? = some (some (.ref b))) (hlen : 6 < sd.length) (hfr : fr.length ≤ 100000) :
    ∃ μ', sSeq (sAsg (eOwn (eCB gTuple (eCons (eMu muPop (eV 1) eNil) (eNil)))) (gD 6)) (sDrop (eMu muAppend (eBin gIx (eV 1) (eUn gNeg (eC (.int 1)))) (eCons (eV 6) (eNil)))) sd μ = some (.nx, sd.set 6 (some (.tup fr2)), μ') ∧
      Stk b μ' (ids ++ [i]) (st ++ [fr ++ [.tup fr2]]) := by
  have p1 := pop_last h
  have hs' := h.pop
  have p2 : isLst μ (.ref b) = some ((ids ++ [i] ++ [i2]).map D.ref) := by rw [isl_ref, h.top]
  have p3 : gTuple (μ.set b (.lst ((ids ++ [i]).map D.ref))) [.ref i2] = some (.tup fr2) := by
    refine tup_ref ?_
    have := (h.pos i2 (by simp)).1
    rw [List.getElem?_set_ne (by omega)]
    exact h.last
  have h1 : sAsg (eOwn (eCB gTuple (eCons (eMu muPop (eV 1) eNil) (eNil)))) (gD 6) sd μ = some (.nx, sd.set 6 (some (.tup fr2)), μ.set b (.lst ((ids ++ [i]).map D.ref))) := by
    generalize μ.set b (.lst ((ids ++ [i]).map D.ref)) = μ2 at *
    generalize (ids ++ [i] ++ [i2]).map D.ref = W at *
    simp [hsd, p1, p2, p3, -isl_ref]
  rw [sSeq_of h1]
  refine ⟨_, app_go (v := .tup fr2) hs' (by rw [List.getElem?_set_ne (by decide)]; exact hsd) hfr ?_ (.inr (.inr ⟨_, rfl⟩)), hs'.app⟩
  rw [eV_e, List.getElem?_set_self hlen]
end
/-- the state between two cells -/
structure VI (n : Nat) (sd : Sl) (μ : Mem) (ids : List Nat) (st : List (List D)) (sc : D) (L : Int) : Prop where
  len : sd.length = 10
  s0 : sd[0]? = some (some sc)
  s1 : sd[1]? = some (some (.ref 1))
  s2 : sd[2]? = some (some (.int L))
  stk : Stk 1 μ ids st
  one : 1 ≤ st.length
  few : st.length ≤ 8
  good : GoodN 8 st
  cst : cost st ≤ 3 + 203 * n
theorem VI.put {n : Nat} {sd : Sl} {μ : Mem} {ids : List Nat} {st : List (List D)} {sc : D} {L : Int} (h : VI n sd μ ids st sc L) {f : EE} {v : D} (hf : f sd μ = some (.ok v, μ)) (hv : Good (9 - st.length) v) (hw : (wr v).length ≤ 202) (hn : n ≤ 100) :
    ∃ μ' st', sDrop (eMu muAppend (eBin gIx (eV 1) (eUn gNeg (eC (.int 1)))) (eCons f eNil)) sd μ = some (.nx, sd, μ') ∧ VI (n + 1) sd μ' ids st' sc L := by
  have hne : st ≠ [] := by intro e; have := h.one; subst e; simp at this
  obtain ⟨st0, fr, rfl⟩ : ∃ st0 fr, st = st0 ++ [fr] := ⟨st.dropLast, st.getLast hne, (List.dropLast_concat_getLast hne).symm⟩
  obtain ⟨ids0, i, rfl⟩ := h.stk.split
  have hc := h.cst
  rw [cost_snoc] at hc
  have hfr : fr.length ≤ 100000 := by
    have := frame_small fr
    unfold costF at hc
    omega
  have hl : (st0 ++ [fr]).length = st0.length + 1 := by simp
  refine ⟨_, _, app_go h.stk h.s1 hfr hf (good_form hv), h.len, h.s0, h.s1, h.s2, h.stk.app, by simp, by have := h.few; simpa using this, h.good.init.snoc (fun d hd => ?_), ?_⟩
  · rcases List.mem_append.mp hd with q | q
    · exact h.good.last d q
    · rw [List.mem_singleton.mp q]
      rw [hl, show 9 - (st0.length + 1) = 8 - st0.length by omega] at hv
      exact hv
  · rw [cost_snoc, costF_snoc]
    omega
theorem VI.fold {n : Nat} {sd : Sl} {μ : Mem} {ids : List Nat} {st : List (List D)} {sc : D} {L : Int} (h : VI n sd μ ids st sc L) (h2 : 2 ≤ st.length) (hn : n ≤ 100) :
    ∃ sd' μ' ids' st', sSeq (sAsg (eOwn (eCB gTuple (eCons (eMu muPop (eV 1) eNil) (eNil)))) (gD 6)) (sDrop (eMu muAppend (eBin gIx (eV 1) (eUn gNeg (eC (.int 1)))) (eCons (eV 6) (eNil)))) sd μ = some (.nx, sd', μ') ∧ VI n sd' μ' ids' st' sc L ∧ st'.length + 1 = st.length := by
  have hne : st ≠ [] := by intro e; subst e; simp at h2
  obtain ⟨st1, fr2, rfl⟩ : ∃ st0 fr, st = st0 ++ [fr] := ⟨st.dropLast, st.getLast hne, (List.dropLast_concat_getLast hne).symm⟩
  have hne1 : st1 ≠ [] := by intro e; subst e; simp at h2
  obtain ⟨st0, fr, rfl⟩ : ∃ st0 fr, st1 = st0 ++ [fr] := ⟨st1.dropLast, st1.getLast hne1, (List.dropLast_concat_getLast hne1).symm⟩
  obtain ⟨ids1, i2, rfl⟩ := h.stk.split
  obtain ⟨ids0, i, rfl⟩ := h.stk.pop.split
  have hc := h.cst
  rw [cost_snoc, cost_snoc] at hc
  have hfr : fr.length ≤ 100000 := by
    have := frame_small fr
    unfold costF at hc
    omega
  obtain ⟨μ', e, hS⟩ := pop_go h.stk h.s1 (by rw [h.len]; decide) hfr
  have hwc := wr_cost fr2
  have hfew := h.few
  refine ⟨_, μ', _, _, e, ⟨by rw [List.length_set]; exact h.len, ?_, ?_, ?_, hS, by simp, by simp at hfew ⊢; omega, h.good.init.init.snoc (fun d hd => ?_), ?_⟩, by simp⟩
  · rw [List.getElem?_set_ne (by decide)]; exact h.s0
  · rw [List.getElem?_set_ne (by decide)]; exact h.s1
  · rw [List.getElem?_set_ne (by decide)]; exact h.s2
  · rcases List.mem_append.mp hd with q | q
    · exact h.good.init.last d q
    · rw [List.mem_singleton.mp q]
      have hg := h.good.last
      rw [show (st0 ++ [fr]).length = st0.length + 1 by simp] at hg
      simp at hfew
      rw [show 8 - st0.length = (8 - (st0.length + 1)) + 1 by omega]
      exact hg
  · rw [cost_snoc, costF_snoc]
    omega
theorem num_len_le {i : Int} (h : i.natAbs < 10 ^ 200) : (num i).length ≤ 201 := by
  rcases num_cases i with ⟨n, e0, e⟩ | ⟨n, hn, e0, e⟩ <;> rw [e]
  · have := num_len (n := n) (by omega); omega
  · have := num_len (n := n) (by omega); simp; omega
theorem cell_go {n : Nat} {sd : Sl} {μ : Mem} {ids : List Nat} {st : List (List D)} {sc : D} {c L : Int} (hL : 0 < L) (hL2 : L ≤ ((10 ^ 200 : Nat) : Int)) (h : VI n sd μ ids st sc L) (hn : n ≤ 100) (hc : sd[3]? = some (some (.int c))) :
    ∃ sd' μ' ids' st', _law_value_b3 sd μ = some (.nx, sd', μ') ∧ VI (n + 1) sd' μ' ids' st' sc L := by
  have m7 : ∀ (μ : Mem) (i : Int), gModI μ (.int i) (.int 7) = some (.int (i % 7)) := fun μ i => mod_int (by decide)
  have d7 : ∀ (μ : Mem) (i : Int), gDivI μ (.int i) (.int 7) = some (.int (i / 7)) := fun μ i => div_int ⟨by decide, by decide⟩
  have mL : ∀ (μ : Mem) (i : Int), gModI μ (.int i) (.int L) = some (.int (i % L)) := fun μ i => mod_int hL
  have m12 : ∀ (μ : Mem) (i : Int), gModI μ (.int i) (.int 12) = some (.int (i % 12)) := fun μ i => mod_int (by decide)
  have hlen := h.len
  let sd1 : Sl := (sd.set 4 (some (.int (c % 7)))).set 5 (some (.int (c / 7)))
  have h' : VI n sd1 μ ids st sc L := ⟨by simp [sd1, h.len], by simp [sd1, h.s0], by simp [sd1, h.s1], by simp [sd1, h.s2], h.stk, h.one, h.few, h.good, h.cst⟩
  have g4 : sd1[4]? = some (some (.int (c % 7))) := by
    show ((sd.set 4 _).set 5 _)[4]? = _
    rw [List.getElem?_set_ne (by decide), List.getElem?_set_self (by omega)]
  have g5 : sd1[5]? = some (some (.int (c / 7))) := by
    show ((sd.set 4 _).set 5 _)[5]? = _
    rw [List.getElem?_set_self (by simp; omega)]
  have a1 : sAsg (eOwn (eBin gModI (eCB gIntA (eCons (eV 3) (eNil))) (eC (.int 7)))) (gD 4) sd μ = some (.nx, sd.set 4 (some (.int (c % 7))), μ) := by simp [hc, m7]
  have a2 : sAsg (eOwn (eBin gDivI (eCB gIntA (eCons (eV 3) (eNil))) (eC (.int 7)))) (gD 5) (sd.set 4 (some (.int (c % 7)))) μ = some (.nx, sd1, μ) := by simp [hc, d7, sd1]
  have gl : gLen μ [.ref 1] = some (.int st.length) := by
    rw [len_any (ds := ids.map D.ref) (by rw [lsA_ref, isl_ref, h.stk.top])]
    simp [h.stk.len]
  have tS : ∀ (K : Int) (a b : SS), sIf (qB (eBin (gEqD false) (eV 4) (eC (.int K)))) a b sd1 μ = if c % 7 = K then a sd1 μ else b sd1 μ := fun K a b => by
    by_cases q : c % 7 = K
    · rw [if_pos q]; exact sIf_t (μ1 := μ) (by simp [g4, q]) rfl
    · rw [if_neg q]; exact sIf_f (μ1 := μ) (by simp [g4, q]) rfl
  have two : Good 2 (D.tup []) := fun d hd => by simp at hd
  have one : st.length ≤ 8 := h.few
  have g9 : ∀ {v : D}, Good 0 v → Good (9 - st.length) v := fun q => q.le (Nat.zero_le _)
  have tok : ∀ {f : EE} {i : Int}, i.natAbs < 10 ^ 200 → f sd1 μ = some (.ok (.int i), μ) → ∃ sd' μ' ids' st', sDrop (eMu muAppend (eBin gIx (eV 1) (eUn gNeg (eC (.int 1)))) (eCons f eNil)) sd1 μ = some (.nx, sd', μ') ∧ VI (n + 1) sd' μ' ids' st' sc L := fun {f i} hi hf => by
    obtain ⟨μ', st', e, hV⟩ := h'.put hf (g9 (v := .int i) hi) (by have := num_len_le hi; show (num i).length ≤ 202; omega) hn
    exact ⟨_, _, _, _, e, hV⟩
  have emp : ∃ sd' μ' ids' st', sDrop (eMu muAppend (eBin gIx (eV 1) (eUn gNeg (eC (.int 1)))) (eCons (eTup eNil) eNil)) sd1 μ = some (.nx, sd', μ') ∧ VI (n + 1) sd' μ' ids' st' sc L := by
    obtain ⟨μ', st', e, hV⟩ := h'.put (f := eTup eNil) (v := .tup []) (by simp) (by rw [show 9 - st.length = (8 - st.length) + 1 by omega]; exact fun d hd => by simp at hd) (by simp [wr, wrL, TL.joinL]) hn
    exact ⟨_, _, _, _, e, hV⟩
  unfold _law_value_b3
  rw [sSeq_of a1, sSeq_of a2, tS, tS, tS, tS]
  split
  · refine tok (i := (c / 7) % L) ?_ (by have z := h'.s2; simp [g5, z, mL])
    have := Int.emod_nonneg (c / 7) (show L ≠ 0 by omega)
    have := Int.emod_lt_of_pos (c / 7) hL
    omega
  · split
    · refine tok (i := 0 - (c / 7) % L) ?_ (by have z := h'.s2; simp [g5, z, mL])
      have := Int.emod_nonneg (c / 7) (show L ≠ 0 by omega)
      have := Int.emod_lt_of_pos (c / 7) hL
      omega
    · split
      · refine tok (i := (c / 7) % 12) ?_ (by simp [g5, m12])
        have : (10 : Nat) ^ 200 ≥ 12 := by decide +kernel
        omega
      · split
        · obtain ⟨w, e, w1, w2, w3⟩ := word_eq (c / 7)
          obtain ⟨μ', st', e2, hV⟩ := h'.put (f := eCall (m__law_word) 1 (eCons (eV 5) (eNil))) (v := .str (S w)) (by simp [g5, e]) (g9 ⟨w1, w2, w3⟩) (by show w.length ≤ 202; omega) hn
          exact ⟨_, _, _, _, e2, hV⟩
        · by_cases q4 : c % 7 = 4 ∧ st.length < 8
          · have ht : qAnd (qB (eBin (gEqD false) (eV 4) (eC (.int 4)))) (qB (eBin gLtI (eCB gLen (eCons (eV 1) (eNil))) (eC (.int 8)))) sd1 μ = some (.ok true, μ) := by
              have : ((st.length : Int) < 8) := by omega
              simp [g4, q4.1, h'.s1, gl, this]
            have hs := h'.stk.push
            have app0 : muAppend (μ ++ [MO.lst []]) (.ref 1) [.ref μ.length] = some (.non, (μ ++ [MO.lst []]).set 1 (.lst (ids.map D.ref ++ [D.ref μ.length]))) := by
              have h0 : 1 < μ.length := (List.getElem?_eq_some_iff.mp h.stk.top).1
              refine app_ref ?_ (by have := h.few; have := h.stk.len; simp; omega) rfl
              rw [List.getElem?_append_left h0]
              exact h.stk.top
            have isl0 : isLst μ (.ref 1) = some (ids.map D.ref) := by rw [isl_ref, h.stk.top]
            refine ⟨sd1, _, _, st ++ [[]], ?_, h'.len, h'.s0, h'.s1, h'.s2, hs, by simp, by simp; omega, h.good.snoc (fun d hd => by simp at hd), ?_⟩
            · refine sIf_t ht ?_
              generalize (μ ++ [MO.lst []]).set 1 (.lst (ids.map D.ref ++ [D.ref μ.length])) = μ2 at *
              simp [h'.s1, isl0, app0, -isl_ref]
            · have := h.cst
              rw [cost_snoc]
              show cost st + 3 ≤ _
              omega
          · have ht : qAnd (qB (eBin (gEqD false) (eV 4) (eC (.int 4)))) (qB (eBin gLtI (eCB gLen (eCons (eV 1) (eNil))) (eC (.int 8)))) sd1 μ = some (.ok false, μ) := by
              by_cases q : c % 7 = 4
              · have : ¬ ((st.length : Int) < 8) := by omega
                simp [g4, q, h'.s1, gl, this]
              · simp [g4, q]
            by_cases q5 : c % 7 = 5 ∧ 2 ≤ st.length
            · have ht2 : qAnd (qB (eBin (gEqD false) (eV 4) (eC (.int 5)))) (qB (eBin gGtI (eCB gLen (eCons (eV 1) (eNil))) (eC (.int 1)))) sd1 μ = some (.ok true, μ) := by
                have : ((st.length : Int) > 1) := by omega
                simp [g4, q5.1, h'.s1, gl, this]
              obtain ⟨sd', μ', ids', st', e, hV, _⟩ := h'.fold q5.2 hn
              refine ⟨sd', μ', ids', st', sIf_f ht (sIf_t ht2 e), hV.len, hV.s0, hV.s1, hV.s2, hV.stk, hV.one, hV.few, hV.good, by have := hV.cst; omega⟩
            · have ht2 : qAnd (qB (eBin (gEqD false) (eV 4) (eC (.int 5)))) (qB (eBin gGtI (eCB gLen (eCons (eV 1) (eNil))) (eC (.int 1)))) sd1 μ = some (.ok false, μ) := by
                by_cases q : c % 7 = 5
                · have : ¬ ((st.length : Int) > 1) := by omega
                  simp [g4, q, h'.s1, gl, this]
                · simp [g4, q]
              obtain ⟨sd', μ', ids', st', e, hV⟩ := emp
              exact ⟨sd', μ', ids', st', sIf_f ht (sIf_f ht2 e), hV⟩
end LK
set_option Elab.async false
set_option linter.all false
set_option maxRecDepth 100000
set_option maxHeartbeats 4000000
namespace LK
open PySem PySem.Spec PyProof.Rows L2 DL
theorem VI.set {n : Nat} {sd : Sl} {μ : Mem} {ids : List Nat} {st : List (List D)} {sc : D} {L : Int} (h : VI n sd μ ids st sc L) (j : Nat) (hj : 3 ≤ j) (d : Option D) : VI n (sd.set j d) μ ids st sc L :=
  ⟨by rw [List.length_set]; exact h.len, by rw [List.getElem?_set_ne (by omega)]; exact h.s0, by rw [List.getElem?_set_ne (by omega)]; exact h.s1, by rw [List.getElem?_set_ne (by omega)]; exact h.s2, h.stk, h.one, h.few, h.good, h.cst⟩
theorem cells (ns : List Int) : ∃ cs : List Int, cs.length ≤ 60 ∧ ∀ (sd : Sl) (μ : Mem), sd[0]? = some (some (.lck (ns.map D.int))) → iSeq (eSl gSl (eV 0) (oSome (eC (.int 1))) (oSome (eC (.int 61)))) sd μ = some (.ok (cs.map D.int, fun _ => True), μ) := by
  refine ⟨(ns.drop (HT.sIx ns.length 0 (some ((1 : Nat) : Int)))).take (HT.sIx ns.length ns.length (some ((61 : Nat) : Int)) - HT.sIx ns.length 0 (some ((1 : Nat) : Int))), ?_, fun sd μ h => ?_⟩
  · rw [HT.sIx_nat, HT.sIx_nat, List.length_take, List.length_drop]
    omega
  · have e : gSl μ (.lck (ns.map D.int)) (some 1) (some 61) = some (.new (DL.cutD (ns.map D.int) (some 1) (some 61))) := rfl
    have e2 : DL.cutD (ns.map D.int) (some 1) (some 61) = ((ns.drop (HT.sIx ns.length 0 (some ((1 : Nat) : Int)))).take (HT.sIx ns.length ns.length (some ((61 : Nat) : Int)) - HT.sIx ns.length 0 (some ((1 : Nat) : Int)))).map D.int := by
      unfold DL.cutD
      rw [List.length_map, List.map_take, List.map_drop]
      rfl
    rw [e2] at e
    generalize ((ns.drop (HT.sIx ns.length 0 (some ((1 : Nat) : Int)))).take (HT.sIx ns.length ns.length (some ((61 : Nat) : Int)) - HT.sIx ns.length 0 (some ((1 : Nat) : Int)))).map D.int = CS at *
    generalize ns.map D.int = NS at *
    simp [h, e]
theorem fold_loop (sc : D) (L : Int) (n : Nat) (hn : n ≤ 100) : ∀ (m : Nat) (f : Nat) (sd : Sl) (μ : Mem) (ids : List Nat) (st : List (List D)), st.length = m + 1 → m < f → VI n sd μ ids st sc L →
    ∃ sd' μ' i fr, whF _law_value_t1 _law_value_b2 _law_value_o1 f sd μ = some (.nx, sd', μ') ∧ VI n sd' μ' [i] [fr] sc L := by
  intro m
  induction m with
  | zero =>
    intro f sd μ ids st hst hf h
    obtain ⟨f, rfl⟩ : ∃ f', f = f' + 1 := ⟨f - 1, by omega⟩
    have gl : gLen μ [.ref 1] = some (.int st.length) := by
      rw [len_any (ds := ids.map D.ref) (by rw [lsA_ref, isl_ref, h.stk.top])]
      simp [h.stk.len]
    have e1 : _law_value_t1 sd μ = some (.ok false, μ) := by
      unfold _law_value_t1
      rw [hst] at gl
      have z := h.s1
      simp [z, gl]
    unfold whF
    rw [e1]
    obtain ⟨fr, rfl⟩ : ∃ fr, st = [fr] := by
      cases st with
      | nil => simp at hst
      | cons a r =>
        cases r with
        | nil => exact ⟨a, rfl⟩
        | cons _ _ => simp at hst
    obtain ⟨i, rfl⟩ : ∃ i, ids = [i] := by
      have := h.stk.len
      cases ids with
      | nil => simp at this
      | cons a r =>
        cases r with
        | nil => exact ⟨a, rfl⟩
        | cons _ _ => simp at this
    exact ⟨sd, μ, i, fr, rfl, h⟩
  | succ m ih =>
    intro f sd μ ids st hst hf h
    obtain ⟨f, rfl⟩ : ∃ f', f = f' + 1 := ⟨f - 1, by omega⟩
    have gl : gLen μ [.ref 1] = some (.int st.length) := by
      rw [len_any (ds := ids.map D.ref) (by rw [lsA_ref, isl_ref, h.stk.top])]
      simp [h.stk.len]
    have e1 : _law_value_t1 sd μ = some (.ok true, μ) := by
      unfold _law_value_t1
      rw [hst] at gl
      have z := h.s1
      have : ((m + 1 + 1 : Nat) : Int) > 1 := by omega
      simp [z, gl]
      omega
    obtain ⟨sd', μ', ids', st', e, hV, hl⟩ := h.fold (by omega) hn
    have e2 : _law_value_b2 sd μ = some (.nx, sd', μ') := e
    unfold whF
    rw [e1]
    simp only [e2]
    exact ih f sd' μ' ids' st' (by omega) (by omega) hV
theorem value_eq (ns : List Int) (hns : ns.length ≤ 63) : ∃ v, m__law_value [.lck (ns.map D.int)] = some (.ok v) ∧ Good 100 v ∧ (wr v).length ≤ 20000 := by
  obtain ⟨P, hP⟩ : ∃ P : Int, P = 10 ^ 50 := ⟨_, rfl⟩
  have hp : ∀ μ, gPowI μ (.int 10) (.int 50) = some (.int P) := fun μ => by rw [pow_int ⟨by decide, by decide, by decide⟩, hP]; rfl
  have p1 : P.natAbs < 2 ^ 170 := by rw [hP]; decide +kernel
  have p2 : (P * P).natAbs < 2 ^ 340 := by rw [hP]; decide +kernel
  have p3 : (P * P * P).natAbs < 2 ^ 510 := by rw [hP]; decide +kernel
  have m1 : ∀ μ, gMulA μ (.int P) (.int P) = some (.int (P * P)) := fun μ => mulA (small_mul 170 170 p1 p1)
  have m2 : ∀ μ, gMulA μ (.int (P * P)) (.int P) = some (.int (P * P * P)) := fun μ => mulA (small_mul 340 170 p2 p1)
  have m3 : ∀ μ, gMulA μ (.int (P * P * P)) (.int P) = some (.int (P * P * P * P)) := fun μ => mulA (small_mul 510 170 p3 p1)
  have hL : 0 < P * P * P * P := by rw [hP]; decide +kernel
  have hL2 : P * P * P * P ≤ ((10 ^ 200 : Nat) : Int) := by rw [hP]; decide +kernel
  obtain ⟨cs, hcs, hit⟩ := cells ns
  obtain ⟨fc, hfc⟩ := cell_eq ns 0 hns
  have hfc : m__law_cell [.lck (ns.map D.int), .int 0] = some (.ok (.int fc)) := hfc
  have hsc : ∀ μ, argD μ (.lck (ns.map D.int)) = some (.lck (ns.map D.int)) := fun μ => argD_lck (okI ns)
  generalize P * P * P * P = L at *
  have h0 : VI 0 [some (.lck (ns.map D.int)), some (.ref 1), some (.int L), none, none, none, none, none, none, none] [.lst [], .lst [.ref 0]] [0] [[]] (.lck (ns.map D.int)) L :=
    ⟨rfl, rfl, rfl, rfl, ⟨rfl, rfl, by simp, fun i hi => by simp at hi; subst hi; simp, fun j i fr q1 q2 => by
      cases j with
      | zero => cases q1; cases q2; rfl
      | succ j => simp at q1⟩, by simp, by simp, fun j fr q d hd => by
      cases j with
      | zero => cases q; simp at hd
      | succ j => simp at q, by simp [cost, costF]⟩
  have hl3 : ∃ sd μ ids st, _law_value_l3 [some (.lck (ns.map D.int)), some (.ref 1), some (.int L), none, none, none, none, none, none, none] [.lst [], .lst [.ref 0]] = some (.nx, sd, μ) ∧ VI cs.length sd μ ids st (.lck (ns.map D.int)) L := by
    unfold _law_value_l3
    rw [sFor_of (hit _ _ rfl)]
    obtain ⟨sd2, μ2, h1, ids, st, hV⟩ := loop_nx (chk := fun _ => True) (t := gD 3) (b := _law_value_b3) D.int
      (fun dn sd μ => ∃ ids st, VI dn.length sd μ ids st (.lck (ns.map D.int)) L) cs [] _ _ ⟨_, _, h0⟩ (by
        rintro dn c rest sd μ he ⟨ids, st, hV⟩
        have hlen : dn.length < cs.length := by have := congrArg List.length he; simp at this; omega
        have hV' := hV.set 3 (by decide) (some (.int c))
        obtain ⟨sd', μ', ids', st', e, hV2⟩ := cell_go hL hL2 hV' (by omega) (by rw [List.getElem?_set_self (by rw [hV.len]; decide)])
        exact ⟨_, _, rfl, sd', μ', e, trivial, ids', st', by simpa using hV2⟩)
    exact ⟨sd2, μ2, ids, st, h1, by simpa using hV⟩
  obtain ⟨sd3, μ3, ids3, st3, e3, hV3⟩ := hl3
  obtain ⟨sd4, μ4, i, fr, e4, hV4⟩ := fold_loop _ _ cs.length (by omega) (st3.length - 1) fuel sd3 μ3 ids3 st3 (by have := hV3.one; omega) (by have := hV3.few; unfold fuel; omega) hV3
  have e4 : _law_value_l2 sd3 μ3 = some (.nx, sd4, μ4) := e4
  have hfr : ∀ d ∈ fr, Good 8 d := hV4.good 0 fr rfl
  have hcost := hV4.cst
  have hcost : costF fr ≤ 3 + 203 * cs.length := by simpa [cost] using hcost
  have hw := wr_cost fr
  have ix0 : gIx μ4 (.ref 1) (.int 0) = some (.ref i) := gIx_int (ds := [.ref i]) (.inr (by rw [lsA_ref, isl_ref, hV4.stk.top]; rfl)) rfl (by intro es e; cases e)
  have tp0 : gTuple μ4 [.ref i] = some (.tup fr) := tup_ref (hV4.stk.at_ 0 i fr rfl rfl)
  have t9 : Good 9 (.tup fr) := hfr
  obtain ⟨a0, a1, a2, a3, a4, a5, a6, a7, a8, a9, rfl⟩ : ∃ a0 a1 a2 a3 a4 a5 a6 a7 a8 a9, sd4 = [a0, a1, a2, a3, a4, a5, a6, a7, a8, a9] := by
    have := hV4.len
    match sd4, this with
    | [a0, a1, a2, a3, a4, a5, a6, a7, a8, a9], _ => exact ⟨_, _, _, _, _, _, _, _, _, _, rfl⟩
  have q0 : a0 = some (.lck (ns.map D.int)) := by simpa using hV4.s0
  have q1 : a1 = some (.ref 1) := by simpa using hV4.s1
  subst q0 q1
  have m3' : ∀ (μ : Mem) (i : Int), gModI μ (.int i) (.int 3) = some (.int (i % 3)) := fun μ i => mod_int (by decide)
  have m4' : ∀ (μ : Mem) (i : Int), gModI μ (.int i) (.int 4) = some (.int (i % 4)) := fun μ i => mod_int (by decide)
  have m92 : ∀ (μ : Mem) (i : Int), gModI μ (.int i) (.int 92) = some (.int (i % 92)) := fun μ i => mod_int (by decide)
  have d3' : ∀ (μ : Mem) (i : Int), gDivI μ (.int i) (.int 3) = some (.int (i / 3)) := fun μ i => div_int ⟨by decide, by decide⟩
  have d60 : ∀ (μ : Mem) (i : Int), gDivI μ (.int i) (.int 60) = some (.int (i / 60)) := fun μ i => div_int ⟨by decide, by decide⟩
  have d240 : ∀ (μ : Mem) (i : Int), gDivI μ (.int i) (.int 240) = some (.int (i / 240)) := fun μ i => div_int ⟨by decide, by decide⟩
  -- one item of it, perhaps
  have pick : ∃ v, sIf (qAnd (qB (eBin gGtI (eCB gLen (eCons (eV 7) (eNil))) (eC (.int 0)))) (qB (eBin (gEqD false) (eBin gModI (eCB gIntA (eCons (eV 8) (eNil))) (eC (.int 3))) (eC (.int 1))))) (sAsg (eOwn (eBin gIx (eV 7) (eBin gModI (eBin gDivI (eCB gIntA (eCons (eV 8) (eNil))) (eC (.int 3))) (eCB gLen (eCons (eV 7) (eNil)))))) (gD 7)) (sSkip)
      [some (.lck (ns.map D.int)), some (.ref 1), a2, a3, a4, a5, a6, some (.tup fr), some (.int fc), a9] μ4 = some (.nx, [some (.lck (ns.map D.int)), some (.ref 1), a2, a3, a4, a5, a6, some v, some (.int fc), a9], μ4) ∧ Good 9 v ∧ (wr v).length ≤ 13000 := by
    by_cases q : fr.length > 0 ∧ fc % 3 = 1
    · obtain ⟨j, hj⟩ := Int.eq_ofNat_of_zero_le (show 0 ≤ fc / 3 % (fr.length : Int) from Int.emod_nonneg _ (by omega))
      have hj2 : j < fr.length := by have := Int.emod_lt_of_pos (fc / 3) (show (0 : Int) < fr.length by omega); omega
      have hmem := List.getElem_mem hj2
      have hn : ∀ d ∈ fr, notNew d = true := fun d hd => by rcases good_form (hfr d hd) with ⟨_, rfl⟩ | ⟨_, rfl⟩ | ⟨_, rfl⟩ <;> rfl
      have ixj := fun μ => ix_self (μ := μ) hj2 hn
      have ml : ∀ (μ : Mem), gModI μ (.int (fc / 3)) (.int fr.length) = some (.int j) := fun μ => by rw [mod_int (by omega), hj]
      refine ⟨fr[j], ?_, (hfr _ hmem).le (by decide), ?_⟩
      · have hgt : (fr.length : Int) > 0 := by omega
        have hform := good_form (hfr _ hmem)
        clear hw hcost
        generalize fr[j] = y at *
        rcases hform with ⟨_, rfl⟩ | ⟨_, rfl⟩ | ⟨_, rfl⟩ <;> simp [hgt, q.1, q.2, m3', d3', ml, ixj]
      · have := mem_cost hmem
        unfold costF at hcost
        omega
    · refine ⟨.tup fr, sIf_f (μ1 := μ4) ?_ rfl, t9, by omega⟩
      by_cases q2 : fr.length > 0
      · have q3 : ¬ fc % 3 = 1 := fun z => q ⟨q2, z⟩
        have hgt : (fr.length : Int) > 0 := by omega
        simp [q2, q3, m3']
      · have hgt : ¬ (fr.length : Int) > 0 := by omega
        have : fr.length = 0 := by omega
        simp [this]
  obtain ⟨v, ep, hv9, hvl⟩ := pick
  -- wrapped, perhaps
  have wrap : ∃ v' o, sIf (qB (eBin (gEqD false) (eBin gModI (eBin gDivI (eCB gIntA (eCons (eV 8) (eNil))) (eC (.int 60))) (eC (.int 4))) (eC (.int 1)))) (_law_value_l1) (sSkip)
      [some (.lck (ns.map D.int)), some (.ref 1), a2, a3, a4, a5, a6, some v, some (.int fc), a9] μ4 = some (.nx, [some (.lck (ns.map D.int)), some (.ref 1), a2, a3, a4, a5, a6, some v', some (.int fc), o], μ4) ∧ Good 100 v' ∧ (wr v').length ≤ 20000 := by
    by_cases q : fc / 60 % 4 = 1
    · obtain ⟨m, hm⟩ := Int.eq_ofNat_of_zero_le (show 0 ≤ fc / 240 % 92 by omega)
      have hm2 : m ≤ 91 := by omega
      have hr : iR1 (eCons (eBin gModI (eBin gDivI (eCB gIntA (eCons (eV 8) (eNil))) (eC (.int 240))) (eC (.int 92))) (eNil)) [some (.lck (ns.map D.int)), some (.ref 1), a2, a3, a4, a5, a6, some v, some (.int fc), a9] μ4 = some (.ok ((List.range m).map (fun i : Nat => D.int i), fun _ => True), μ4) :=
        iR1_of (n := m) (by simp [d240, m92, hm]) (by omega)
      obtain ⟨sd2, μ2, h1, v', o, g, gl, hsd2, hmu2⟩ := loop_nx (chk := fun _ => True) (t := gD 9) (b := _law_value_b1) (fun i : Nat => D.int i)
        (fun dn sd μ => ∃ v' o, Good (9 + dn.length) v' ∧ (wr v').length ≤ 13000 + 2 * dn.length ∧ sd = [some (.lck (ns.map D.int)), some (.ref 1), a2, a3, a4, a5, a6, some v', some (.int fc), o] ∧ μ = μ4) (List.range m) [] _ _ ⟨v, a9, hv9, by simpa using hvl, rfl, rfl⟩ (by
          rintro dn x rest sd μ he ⟨v', o, g, gl, rfl, rfl⟩
          refine ⟨_, _, rfl, [some (.lck (ns.map D.int)), some (.ref 1), a2, a3, a4, a5, a6, some (.tup [v']), some (.int fc), some (.int x)], μ, ?_, trivial, .tup [v'], _, ?_, ?_, rfl, rfl⟩
          · unfold _law_value_b1
            rcases good_form g with ⟨_, rfl⟩ | ⟨_, rfl⟩ | ⟨_, rfl⟩ <;> simp
          · rw [List.length_append]
            show ∀ d ∈ [v'], Good (9 + dn.length) d
            intro d hd
            rw [List.mem_singleton.mp hd]; exact g
          · rw [List.length_append]
            show (40 :: (TL.joinL [32] (wrL [v']) ++ [41])).length ≤ _
            simp [wrL, TL.joinL]
            omega)
      rw [hsd2, hmu2] at h1
      refine ⟨v', o, sIf_t (μ1 := μ4) (by simp [d60, m4', q]) ?_, g.le (by simp; omega), by simp at gl; omega⟩
      unfold _law_value_l1
      rw [sFor_of hr]
      exact h1
    · exact ⟨v, a9, sIf_f (μ1 := μ4) (by simp [d60, m4', q]) rfl, hv9.le (by decide), by omega⟩
  obtain ⟨v', o, ew, hg, hlen⟩ := wrap
  refine ⟨v', ?_, hg, hlen⟩
  have hplain := (good_ok _ _ hg).2
  unfold m__law_value b__law_value
  rw [runF_def]
  have c1 : sAsg (eOwn (eLst (eCons (eOwn (eLst (eNil))) (eNil)))) (gD 1) [some (.lck (ns.map D.int)), none, none, none, none, none, none, none, none, none] [] = some (.nx, [some (.lck (ns.map D.int)), some (.ref 1), none, none, none, none, none, none, none, none], [.lst [], .lst [.ref 0]]) := by simp
  have c2 : sAsg (eOwn (eBin gMulA (eBin gMulA (eBin gMulA (eBin gPowI (eC (.int 10)) (eC (.int 50))) (eBin gPowI (eC (.int 10)) (eC (.int 50)))) (eBin gPowI (eC (.int 10)) (eC (.int 50)))) (eBin gPowI (eC (.int 10)) (eC (.int 50))))) (gD 2) [some (.lck (ns.map D.int)), some (.ref 1), none, none, none, none, none, none, none, none] [.lst [], .lst [.ref 0]] =
      some (.nx, [some (.lck (ns.map D.int)), some (.ref 1), some (.int L), none, none, none, none, none, none, none], [.lst [], .lst [.ref 0]]) := by simp [hp, m1, m2, m3]
  have c5 : sAsg (eOwn (eCB gTuple (eCons (eBin gIx (eV 1) (eC (.int 0))) (eNil)))) (gD 7) [some (.lck (ns.map D.int)), some (.ref 1), a2, a3, a4, a5, a6, a7, a8, a9] μ4 = some (.nx, [some (.lck (ns.map D.int)), some (.ref 1), a2, a3, a4, a5, a6, some (.tup fr), a8, a9], μ4) := by simp [ix0, tp0]
  have c6 : sAsg (eOwn (eCall (m__law_cell) 2 (eCons (eV 0) (eCons (eC (.int 0)) (eNil))))) (gD 8) [some (.lck (ns.map D.int)), some (.ref 1), a2, a3, a4, a5, a6, some (.tup fr), a8, a9] μ4 = some (.nx, [some (.lck (ns.map D.int)), some (.ref 1), a2, a3, a4, a5, a6, some (.tup fr), some (.int fc), a9], μ4) := by
    clear ep ew
    have hs := hsc μ4
    generalize ns.map D.int = NS at *
    simp [hs, hfc]
  show (match sSeq _ _ [some (.lck (ns.map D.int)), none, none, none, none, none, none, none, none, none] [] with
    | some (.ret d, _, _) => some (Except.ok d)
    | some (.nx, _, _) => some (.ok .non)
    | some (.exc e, _, _) => some (.error e)
    | _ => none) = (some (Except.ok v') : Option (Except Exn D))
  rw [sSeq_of c1, sSeq_of c2, sSeq_of e3, sSeq_of e4, sSeq_of c5, sSeq_of c6, sSeq_of ep, sSeq_of ew]
  have : sRet (eV 7) [some (.lck (ns.map D.int)), some (.ref 1), a2, a3, a4, a5, a6, some v', some (.int fc), o] μ4 = some (.ret v', [some (.lck (ns.map D.int)), some (.ref 1), a2, a3, a4, a5, a6, some v', some (.int fc), o], μ4) := by
    rcases good_form hg with ⟨_, rfl⟩ | ⟨_, rfl⟩ | ⟨ds, rfl⟩
    · simp
    · simp [out_str]
    · have := out_tup (μ := μ4) hplain
      simp [this]
  rw [this]
end LK
set_option Elab.async false
set_option linter.all false
set_option maxRecDepth 100000
set_option maxHeartbeats 4000000
namespace LK
open PySem PySem.Spec PyProof.Rows L2 DL
/-- a text of signs, not too long -/
def Ok (n : Nat) (t : List Nat) : Prop := t.length ≤ n ∧ ∀ x ∈ t, x < 0x110000
theorem slTo {μ : Mem} {t : List Nat} {j : Nat} (hl : t.length ≤ 100000) : gSl μ (.str (S t)) none (some (j : Int)) = some (.str (S (t.take j))) := by
  show (if (S t).length ≤ sizeLine then some (D.str (cutS (S t) none (some (j : Int)))) else none) = _
  rw [if_pos (szS hl)]
  unfold cutS
  rw [cps_S, S_len, HT.sIx_nat, HT.sIx_none]
  have : (t.drop 0).take (min j t.length - 0) = t.take j := by
    rw [List.drop_zero, Nat.sub_zero]
    by_cases h : j ≤ t.length
    · rw [Nat.min_eq_left h]
    · rw [Nat.min_eq_right (by omega), List.take_length, List.take_of_length_le (by omega)]
  rw [this]
theorem slFrom {μ : Mem} {t : List Nat} {i : Nat} (hl : t.length ≤ 100000) : gSl μ (.str (S t)) (some (i : Int)) none = some (.str (S (t.drop i))) := by
  show (if (S t).length ≤ sizeLine then some (D.str (cutS (S t) (some (i : Int)) none)) else none) = _
  rw [if_pos (szS hl)]
  unfold cutS
  rw [cps_S, S_len, HT.sIx_nat, HT.sIx_none]
  have : (t.drop (min i t.length)).take (t.length - min i t.length) = t.drop i := by
    by_cases h : i ≤ t.length
    · rw [Nat.min_eq_left h, List.take_of_length_le (by simp)]
    · rw [Nat.min_eq_right (by omega), List.drop_length, List.drop_eq_nil_of_le (by omega)]
      simp
  rw [this]
def SG : List Nat := [40, 41, 32, 45, 48, 49, 55, 57, 97, 122, 65, 43, 44, 10]
theorem SG_S : ("() -0179azA+,\n" : Str) = S SG := by decide +kernel
theorem spoilt_eq (t : List Nat) (c : Int) (n : Nat) (hn : n ≤ 90000) (ht : Ok n t) : ∃ u, m__law_spoilt [.str (S t), .int c] = some (.ok (.str (S u))) ∧ Ok (n + 1) u := by
  have hl : t.length ≤ 100000 := by have := ht.1; omega
  have l1 := fun μ => lenS (μ := μ) hl
  have m6 : ∀ (μ : Mem) (i : Int), gModI μ (.int i) (.int 6) = some (.int (i % 6)) := fun μ i => mod_int (by decide)
  have d6 : ∀ (μ : Mem) (i : Int), gDivI μ (.int i) (.int 6) = some (.int (i / 6)) := fun μ i => div_int ⟨by decide, by decide⟩
  have d7 : ∀ (μ : Mem) (i : Int), gDivI μ (.int i) (.int 7) = some (.int (i / 7)) := fun μ i => div_int ⟨by decide, by decide⟩
  have m14 : ∀ (μ : Mem) (i : Int), gModI μ (.int i) (.int 14) = some (.int (i % 14)) := fun μ i => mod_int (by decide)
  obtain ⟨p, hp⟩ := Int.eq_ofNat_of_zero_le (show 0 ≤ c / 6 % ((t.length : Int) + 1) from Int.emod_nonneg _ (by omega))
  have hp2 : p ≤ t.length := by have := Int.emod_lt_of_pos (c / 6) (show (0 : Int) < (t.length : Int) + 1 by omega); omega
  have mp : ∀ (μ : Mem), gModI μ (.int (c / 6)) (.int ((t.length : Int) + 1)) = some (.int p) := fun μ => by rw [DL.mod_int (by omega), hp]
  obtain ⟨j, hj⟩ := Int.eq_ofNat_of_zero_le (show 0 ≤ c / 7 % 14 by omega)
  have hj2 : j < 14 := by omega
  have hsg : SG[j]? = some (SG[j]'hj2) := List.getElem?_eq_getElem hj2
  have hs7 : ∀ x ∈ SG, x < 0x110000 := by decide
  have hsx := hs7 _ (List.getElem_mem hj2)
  have ixg := fun μ => ixS (μ := μ) hsg (by decide)
  generalize SG[j]'hj2 = s at *
  have hcast : ((p + 1 : Nat) : Int) = (p : Int) + 1 := by omega
  have t1 := fun μ => slTo (μ := μ) (j := p) hl
  have t2 := fun μ => slTo (μ := μ) (j := p + 1) hl
  have f1 := fun μ => slFrom (μ := μ) (i := p) hl
  have f2 := fun μ => slFrom (μ := μ) (i := p + 1) hl
  rw [hcast] at t2 f2
  have hs1 : (⟨#[s]⟩ : Str) = S [s] := rfl
  rw [hs1] at ixg
  have ok1 : ∀ {a : List Nat}, (∀ x ∈ a, x ∈ t ∨ x = s) → a.length ≤ n + 1 → Ok (n + 1) a := fun h1 h2 => ⟨h2, fun x hx => by
    rcases h1 x hx with q | q
    · exact ht.2 x q
    · rw [q]; exact hsx⟩
  have htk : ∀ {i : Nat} {x : Nat}, x ∈ t.take i → x ∈ t := fun h => List.mem_of_mem_take h
  have hdr : ∀ {i : Nat} {x : Nat}, x ∈ t.drop i → x ∈ t := fun h => List.mem_of_mem_drop h
  have hlen := ht.1
  have L1 : (t.take p).length = p := by simp; omega
  have L3 : (t.drop p).length = t.length - p := by simp
  have L4 : (t.drop (p + 1)).length = t.length - (p + 1) := by simp
  have L2 : (t.take (p + 1)).length ≤ p + 1 ∧ (t.take (p + 1)).length ≤ t.length := by simp; omega
  have A1 : ∀ μ, gAdd μ (.str (S (t.take p))) (.str (S [s])) = some (.str (S (t.take p ++ [s]))) := fun μ => add_str (by simp only [List.length_cons, List.length_nil]; omega)
  have A2 : ∀ μ, gAdd μ (.str (S (t.take p ++ [s]))) (.str (S (t.drop p))) = some (.str (S (t.take p ++ [s] ++ t.drop p))) := fun μ => add_str (by simp only [List.length_append, List.length_cons, List.length_nil]; omega)
  have A3 : ∀ μ, gAdd μ (.str (S (t.take p ++ [s]))) (.str (S (t.drop (p + 1)))) = some (.str (S (t.take p ++ [s] ++ t.drop (p + 1)))) := fun μ => add_str (by simp only [List.length_append, List.length_cons, List.length_nil]; omega)
  have A4 : ∀ μ, gAdd μ (.str (S (t.take p))) (.str (S (t.drop (p + 1)))) = some (.str (S (t.take p ++ t.drop (p + 1)))) := fun μ => add_str (by omega)
  have A5 : ∀ μ, gAdd μ (.str (S (t.take (p + 1)))) (.str (S (t.drop p))) = some (.str (S (t.take (p + 1) ++ t.drop p))) := fun μ => add_str (by omega)
  have A6 : ∀ μ, gAdd μ (.str (S t)) (.str (S [s])) = some (.str (S (t ++ [s]))) := fun μ => add_str (by simp only [List.length_cons, List.length_nil]; omega)
  have R0 : Ok (n + 1) (t.take p ++ [s] ++ t.drop p) := ok1 (fun x hx => by
    simp only [List.mem_append, List.mem_singleton] at hx
    rcases hx with (q | q) | q
    · exact .inl (htk q)
    · exact .inr q
    · exact .inl (hdr q)) (by simp only [List.length_append, List.length_cons, List.length_nil]; omega)
  have R2 : Ok (n + 1) (t.take p ++ [s] ++ t.drop (p + 1)) := ok1 (fun x hx => by
    simp only [List.mem_append, List.mem_singleton] at hx
    rcases hx with (q | q) | q
    · exact .inl (htk q)
    · exact .inr q
    · exact .inl (hdr q)) (by simp only [List.length_append, List.length_cons, List.length_nil]; omega)
  have R1 : Ok (n + 1) (t.take p ++ t.drop (p + 1)) := ok1 (fun x hx => by
    simp only [List.mem_append] at hx
    rcases hx with q | q
    · exact .inl (htk q)
    · exact .inl (hdr q)) (by simp only [List.length_append]; omega)
  have R3 : Ok (n + 1) (t.take p) := ok1 (fun x hx => .inl (htk hx)) (by omega)
  have R4 : Ok (n + 1) (t.take (p + 1) ++ t.drop p) := ok1 (fun x hx => by
    simp only [List.mem_append] at hx
    rcases hx with q | q
    · exact .inl (htk q)
    · exact .inl (hdr q)) (by simp only [List.length_append]; omega)
  have R5 : Ok (n + 1) (t ++ [s]) := ok1 (fun x hx => by
    simp only [List.mem_append, List.mem_singleton] at hx
    exact hx) (by simp only [List.length_append, List.length_cons, List.length_nil]; omega)
  unfold m__law_spoilt b__law_spoilt
  rw [SG_S]
  have h6 : c % 6 = 0 ∨ c % 6 = 1 ∨ c % 6 = 2 ∨ c % 6 = 3 ∨ c % 6 = 4 ∨ c % 6 = 5 := by omega
  rcases h6 with h | h | h | h | h | h
  · refine ⟨_, ?_, R0⟩
    clear R0 R1 R2 R3 R4 R5 L1 L2 L3 L4
    generalize S (t.take p ++ [s] ++ t.drop p) = X0 at *
    generalize S (t.take p ++ [s]) = X1 at *
    generalize S (t.take p) = X2 at *
    generalize S (t.drop p) = X3 at *
    generalize S [s] = X4 at *
    generalize S SG = X5 at *
    generalize S t = Z at *
    simp [l1, m6, d6, d7, m14, mp, hj, ixg, h, t1, f1, A1, A2, out_str]
  · refine ⟨_, ?_, R1⟩
    clear R0 R1 R2 R3 R4 R5 L1 L2 L3 L4
    generalize S (t.take p ++ t.drop (p + 1)) = X0 at *
    generalize S (t.take p) = X2 at *
    generalize S (t.drop (p + 1)) = X3 at *
    generalize S [s] = X4 at *
    generalize S SG = X5 at *
    generalize S t = Z at *
    simp [l1, m6, d6, d7, m14, mp, hj, ixg, h, t1, f2, A4, out_str]
  · refine ⟨_, ?_, R2⟩
    clear R0 R1 R2 R3 R4 R5 L1 L2 L3 L4
    generalize S (t.take p ++ [s] ++ t.drop (p + 1)) = X0 at *
    generalize S (t.take p ++ [s]) = X1 at *
    generalize S (t.take p) = X2 at *
    generalize S (t.drop (p + 1)) = X3 at *
    generalize S [s] = X4 at *
    generalize S SG = X5 at *
    generalize S t = Z at *
    simp [l1, m6, d6, d7, m14, mp, hj, ixg, h, t1, f2, A1, A3, out_str]
  · refine ⟨_, ?_, R3⟩
    clear R0 R1 R2 R3 R4 R5 L1 L2 L3 L4
    generalize S (t.take p) = X2 at *
    generalize S [s] = X4 at *
    generalize S SG = X5 at *
    generalize S t = Z at *
    simp [l1, m6, d6, d7, m14, mp, hj, ixg, h, t1, out_str]
  · refine ⟨_, ?_, R4⟩
    clear R0 R1 R2 R3 R4 R5 L1 L2 L3 L4
    generalize S (t.take (p + 1) ++ t.drop p) = X0 at *
    generalize S (t.take (p + 1)) = X2 at *
    generalize S (t.drop p) = X3 at *
    generalize S [s] = X4 at *
    generalize S SG = X5 at *
    generalize S t = Z at *
    simp [l1, m6, d6, d7, m14, mp, hj, ixg, h, t2, f1, A5, out_str]
  · refine ⟨_, ?_, R5⟩
    clear R0 R1 R2 R3 R4 R5 L1 L2 L3 L4
    generalize S (t ++ [s]) = X0 at *
    generalize S [s] = X4 at *
    generalize S SG = X5 at *
    generalize S t = Z at *
    simp [l1, m6, d6, d7, m14, mp, hj, ixg, h, A6, out_str]
theorem num_valid (i : Int) : ∀ x ∈ num i, x < 0x110000 := fun x hx => by
  have := num_signs i x hx
  unfold isD at this
  omega
theorem wr_valid : ∀ (n : Nat) (v : D), Good n v → ∀ x ∈ wr v, x < 0x110000 := by
  intro n
  induction n with
  | zero =>
    intro v h x hx
    cases v with
    | int i => exact num_valid i x hx
    | str z => have := (good_str h).2.2 x hx; omega
    | _ => exact h.elim
  | succ n ih =>
    intro v h x hx
    cases v with
    | int i => exact num_valid i x hx
    | str z => have := (good_str h).2.2 x hx; omega
    | tup ds =>
      have key : ∀ ds : List D, (∀ d ∈ ds, Good n d) → ∀ x ∈ TL.joinL [32] (wrL ds), x < 0x110000 := by
        intro ds
        induction ds with
        | nil => intro _ x hx; simp [wrL, TL.joinL] at hx
        | cons d ds ihd =>
          intro h x hx
          cases ds with
          | nil => exact ih d (h d List.mem_cons_self) x hx
          | cons e ds =>
            have hx : x ∈ wr d ++ ([32] ++ TL.joinL [32] (wrL (e :: ds))) := hx
            simp only [List.mem_append, List.mem_singleton] at hx
            rcases hx with q | q | q
            · exact ih d (h d List.mem_cons_self) x q
            · omega
            · exact ihd (fun z hz => h z (List.mem_cons_of_mem _ hz)) x q
      have hx : x ∈ 40 :: (TL.joinL [32] (wrL ds) ++ [41]) := hx
      simp only [List.mem_cons, List.mem_append] at hx
      rcases hx with q | q | q
      · omega
      · exact key ds h x q
      · simp at q; omega
    | _ => exact h.elim
/-- a value is read back -/
theorem back (v : D) (h : Good 100 v) (hl : (wr v).length ≤ 20000) : m_read_value [.str (S (wr v))] = some (.ok v) := by
  have hd : due0 (wr v) = none := by
    have := due_wr 100 v 0 [] 0 h (by decide) lim_nil
    rw [List.append_nil] at this
    exact this.trans rfl
  rcases read_value_eq (wr v) (by omega) (wr_valid _ _ h) with ⟨at_, _, h2⟩ | ⟨v', h1, h2, h3, _⟩
  · rw [hd] at h2; cases h2
  · have := wr_inj 100 100 v' v [] [] h2 h lim_nil lim_nil (by rw [h3])
    rw [h1, this.1]
end LK
set_option Elab.async false
set_option linter.all false
set_option maxRecDepth 100000
set_option maxHeartbeats 4000000
namespace LK
open PySem PySem.Spec PyProof.Rows L2 DL
abbrev T (u : List Nat) : D := .str (S u)
def FX : List (List Nat) := [[], [40], [41], [45], [45, 48], [48, 48], [40, 32, 41], [40, 41], [40, 49, 32, 41], [49, 32], [32, 49], [97, 49], [49, 97], [40, 49, 32, 32, 50, 41], [40, 41, 41]]
theorem FX_eq : ([.str "", .str "(", .str ")", .str "-", .str "-0", .str "00", .str "( )", .str "()", .str "(1 )", .str "1 ", .str " 1", .str "a1", .str "1a", .str "(1  2)", .str "())"] : List D) = FX.map T := by
  have h : ("" : Str) = S [] ∧ ("(" : Str) = S [40] ∧ (")" : Str) = S [41] ∧ ("-" : Str) = S [45] ∧ ("-0" : Str) = S [45, 48] ∧ ("00" : Str) = S [48, 48] ∧ ("( )" : Str) = S [40, 32, 41] ∧ ("()" : Str) = S [40, 41] ∧ ("(1 )" : Str) = S [40, 49, 32, 41] ∧ ("1 " : Str) = S [49, 32] ∧ (" 1" : Str) = S [32, 49] ∧
    ("a1" : Str) = S [97, 49] ∧ ("1a" : Str) = S [49, 97] ∧ ("(1  2)" : Str) = S [40, 49, 32, 32, 50, 41] ∧ ("())" : Str) = S [40, 41, 41] := by decide +kernel
  obtain ⟨h1, h2, h3, h4, h5, h6, h7, h8, h9, h10, h11, h12, h13, h14, h15⟩ := h
  rw [h1, h2, h3, h4, h5, h6, h7, h8, h9, h10, h11, h12, h13, h14, h15]
  rfl
theorem gMul_str (μ : Mem) (z : Str) (n : Int) : gMul μ (.str z) (.int n) = none := rfl
theorem rep_str {μ : Mem} {z : Str} {n : Int} {u : List Nat} (hn : 2 ≤ n ∧ n ≤ 1000) (hz : z.length = 1) (e : repS z n.toNat = S u) (hu : u.length ≤ 1000) : gMulA μ (.str z) (.int n) = some (T u) := by
  unfold gMulA
  rw [gMul_str, Option.none_or]
  show when_ _ _ = _
  rw [when_t ⟨hn.1, hn.2, by omega, by omega, by rw [e, S_len]; exact le_size (by omega)⟩, e]
theorem r101 (μ : Mem) : gMulA μ (.str "(") (.int 101) = some (T (List.replicate 101 40)) := rep_str (by decide) (by decide +kernel) (by decide +kernel) (by decide)
theorem q101 (μ : Mem) : gMulA μ (.str ")") (.int 101) = some (T (List.replicate 101 41)) := rep_str (by decide) (by decide +kernel) (by decide +kernel) (by decide)
theorem r100 (μ : Mem) : gMulA μ (.str "(") (.int 100) = some (T (List.replicate 100 40)) := rep_str (by decide) (by decide +kernel) (by decide +kernel) (by decide)
theorem q100 (μ : Mem) : gMulA μ (.str ")") (.int 100) = some (T (List.replicate 100 41)) := rep_str (by decide) (by decide +kernel) (by decide +kernel) (by decide)
theorem due101 : due0 (List.replicate 101 40) = some 100 := by decide +kernel
theorem ex_bt : kiT2 "BadText" "ValueError" = some true := by kernel_rfl
theorem ki_bt : kiT "BadText" "BadText" = some true := by kernel_rfl
theorem ki_bn : kiT "BadText" "BadName" = some false := by kernel_rfl
theorem ok_fx : ∀ u ∈ FX, Ok 10 u := by
  intro u hu
  refine ⟨?_, ?_⟩
  · exact (by decide : ∀ u ∈ FX, u.length ≤ 10) u hu
  · exact (by decide : ∀ u ∈ FX, ∀ x ∈ u, x < 0x110000) u hu
theorem Ok.le {n m : Nat} {u : List Nat} (h : Ok n u) (q : n ≤ m) : Ok m u := ⟨Nat.le_trans h.1 q, h.2⟩
theorem app_texts {FXL : List D} {us : List (List Nat)} {u : List Nat} (hl : us.length ≤ 100) : muAppend [.lst FXL, .lst (us.map T)] (.ref 1) [T u] = some (.non, [.lst FXL, .lst ((us ++ [u]).map T)]) := by
  rw [app_ref (n := 1) (es := us.map T) rfl (by simp; omega) rfl, List.map_append]
  rfl
theorem ix_texts {μ : Mem} {n : Nat} {us : List (List Nat)} {k : Nat} {u : List Nat} (hm : μ[n]? = some (.lst (us.map T))) (hk : us[k]? = some u) : gIx μ (.ref n) (.int k) = some (T u) := by
  obtain ⟨h1, h2⟩ := List.getElem?_eq_some_iff.mp hk
  refine gIx_int (ds := us.map T) (.inr (by rw [lsA_ref, isl_ref, hm])) ?_ (by intro es e; cases e)
  rw [atI_nat _ k (by simpa using h1)]
  simp [h2]
theorem s10_go (a b c d e f g : Option D) (μ : Mem) : law_s10 [a, b, c, d, e, f, g, none] μ = some (.ret (.bl true), [a, b, c, d, e, f, g, none], μ) := by
  have hr : m_read_value [T (List.replicate 101 40)] = some (.error (bad 100)) := by
    rcases read_value_eq (List.replicate 101 40) (by simp) (fun x hx => by have := List.eq_of_mem_replicate hx; omega) with ⟨at_, h1, h2⟩ | ⟨v, _, _, _, h4⟩
    · rw [due101] at h2
      cases h2
      exact h1
    · rw [due101] at h4; cases h4
  have r1 := fun μ => r101 μ
  have hb : sDrop (eCall (m_read_value) 1 (eCons (eBin gMulA (eC (.str "(")) (eC (.int 101))) (eNil))) [a, b, c, d, e, f, g, none] μ = some (.exc (bad 100), [a, b, c, d, e, f, g, none], μ) := by
    generalize bad 100 = B at *
    unfold T at r1 hr
    generalize S (List.replicate 101 40) = Z at *
    simp [r1, hr]
  have hh : ∀ a' d' : Addr, finS 7 (law_h1 a' d' (bad 100) [a, b, c, d, e, f, g, some (.exh a' d' "BadText" [("at", .int (100 : Nat))])] μ) = some (.ret (.bl true), [a, b, c, d, e, f, g, none], μ) := by
    intro a' d'
    have i1 : gIsE kiT kiT2 a' d' (bad 100).cls μ [.exh a' d' "BadText" [("at", .int (100 : Nat))], .ty "ValueError"] = some (.bl true) := by
      show (if a' = a' ∧ d' = d' ∧ ("BadText" : Str) = "BadText" then (kiT2 "BadText" "ValueError").map D.bl else none) = _
      rw [if_pos ⟨rfl, rfl, rfl⟩, ex_bt]
      rfl
    have i2 : gIsE kiT kiT2 a' d' (bad 100).cls μ [.exh a' d' "BadText" [("at", .int (100 : Nat))], .glob "BadText"] = some (.bl true) := by
      show (if a' = a' ∧ d' = d' ∧ ("BadText" : Str) = "BadText" then (kiT "BadText" "BadText").map D.bl else none) = _
      rw [if_pos ⟨rfl, rfl, rfl⟩, ki_bt]
      rfl
    have i3 : gIsE kiT kiT2 a' d' (bad 100).cls μ [.exh a' d' "BadText" [("at", .int (100 : Nat))], .glob "BadName"] = some (.bl false) := by
      show (if a' = a' ∧ d' = d' ∧ ("BadText" : Str) = "BadText" then (kiT "BadText" "BadName").map D.bl else none) = _
      rw [if_pos ⟨rfl, rfl, rfl⟩, ki_bn]
      rfl
    have hx : eXf xfT a' d' (bad 100) "at" (eV 7) [a, b, c, d, e, f, g, some (.exh a' d' "BadText" [("at", .int (100 : Nat))])] μ = some (.ok (.int (100 : Nat)), μ) := by
      unfold eXf
      rw [show (bad 100).cls = "BadText" from rfl, lk3, if_pos rfl]
      simp [bE, notNew, List.lookup]
    unfold law_h1
    generalize bad 100 = B at *
    have e1 : ∀ μ, gEqD false μ (.int ((100 : Nat) : Int)) (.int 100) = some (.bl true) := fun μ => by rw [DL.eq_int]; rfl
    generalize hE : D.exh a' d' "BadText" [("at", .int ((100 : Nat) : Int))] = E at *
    generalize ((100 : Nat) : Int) = H at *
    subst hE
    simp [i1, i2, i3, hx, e1, finS]
  have hp : pickS exT [⟨"BookError", some 7, law_h1⟩] (bad 100) [a, b, c, d, e, f, g, none] μ = some (.ret (.bl true), [a, b, c, d, e, f, g, none], μ) := by
    unfold pickS
    rw [show (bad 100).cls = "BadText" from rfl]
    simp only [lk4]
    refine Eq.trans (when_t ?_) ?_
    · exact fun a d => (hh a d).trans (hh 0 0).symm
    · exact hh 0 0
  unfold law_s10 sTry
  rw [hb]
  exact hp
theorem law_true (ns : List Int) (h : ns.length ≤ 63) : m_law [.lck (ns.map D.int)] = some (.ok (.bl true)) := by
  obtain ⟨v, hv, hg, hlen⟩ := value_eq ns h
  have hwt : m_value_text 110 [v] = some (.ok (T (wr v))) := text_eq 109 v (hg.le (by decide)) (by omega)
  have hww : m__law_write 110 [v] = some (.ok (T (wr v))) := by rw [write_eq]; exact hwt
  have hrv := back v hg hlen
  have hsame : m__law_same 110 [v, v] = some (.ok (.bl true)) := same_self 109 v (hg.le (by decide)) (by omega)
  have hval := wr_valid _ _ hg
  have hok : Ok 20000 (wr v) := ⟨hlen, hval⟩
  have hne : ∀ μ, gEqD true μ (T (wr v)) (T (wr v)) = some (.bl false) := fun μ => by rw [eqS hval hval]; simp
  have hsc : ∀ μ, argD μ (.lck (ns.map D.int)) = some (.lck (ns.map D.int)) := fun μ => argD_lck (okI ns)
  have ha : ∀ μ, argD μ v = some v := fun μ => arg_plain (good_ok _ _ hg).1
  have hform := good_form hg
  have hsl : ∀ μ, gLen μ [.lck (ns.map D.int)] = some (.int ns.length) := fun μ => by rw [len_lck, List.length_map]
  have hcell := fun k => cell_eq ns k h
  generalize hW : wr v = w at *
  -- the first four rows
  have c1 : law_s1 [some (.lck (ns.map D.int)), none, none, none, none, none, none, none] [] = some (.nx, [some (.lck (ns.map D.int)), some v, none, none, none, none, none, none], []) := by
    unfold law_s1
    have hs := hsc []
    generalize ns.map D.int = NS at *
    rcases hform with ⟨_, rfl⟩ | ⟨_, rfl⟩ | ⟨_, rfl⟩ <;> simp [hs, hv]
  have c2 : law_s2 [some (.lck (ns.map D.int)), some v, none, none, none, none, none, none] [] = some (.nx, [some (.lck (ns.map D.int)), some v, some (T w), none, none, none, none, none], []) := by
    unfold law_s2
    have hs := hsc []
    have ha' := ha []
    generalize m_value_text 110 = VT at *
    generalize ns.map D.int = NS at *
    rcases hform with ⟨_, rfl⟩ | ⟨_, rfl⟩ | ⟨_, rfl⟩ <;> simp [ha', hwt, T]
  have c3 : law_s3 [some (.lck (ns.map D.int)), some v, some (T w), none, none, none, none, none] [] = some (.nx, [some (.lck (ns.map D.int)), some v, some (T w), none, none, none, none, none], []) := by
    unfold law_s3
    have ha' := ha []
    unfold T at *
    generalize m__law_write 110 = VT at *
    generalize ns.map D.int = NS at *
    generalize S w = Z at *
    rcases hform with ⟨_, rfl⟩ | ⟨_, rfl⟩ | ⟨_, rfl⟩ <;> simp [ha', hww, hne]
  have c4 : law_s4 [some (.lck (ns.map D.int)), some v, some (T w), none, none, none, none, none] [] = some (.nx, [some (.lck (ns.map D.int)), some v, some (T w), none, none, none, none, none], []) := by
    unfold law_s4
    have ha' := ha []
    unfold T at *
    generalize m__law_same 110 = VT at *
    generalize ns.map D.int = NS at *
    generalize S w = Z at *
    rcases hform with ⟨_, rfl⟩ | ⟨_, rfl⟩ | ⟨_, rfl⟩ <;> simp [ha', hrv, hsame]
  have c5 : law_s5 [some (.lck (ns.map D.int)), some v, some (T w), none, none, none, none, none] [] = some (.nx, [some (.lck (ns.map D.int)), some v, some (T w), some (.ref 0), none, none, none, none], [.lst (FX.map T)]) := by
    unfold law_s5
    have sz : 15 ≤ sizeLine := le_size (by decide)
    rw [← FX_eq]
    simp [sz]
  obtain ⟨f0, hf0⟩ := hcell 0
  have hf0 : m__law_cell [.lck (ns.map D.int), .int 0] = some (.ok (.int f0)) := hf0
  obtain ⟨j, hj⟩ := Int.eq_ofNat_of_zero_le (show 0 ≤ f0 % 15 by omega)
  have hj2 : j < FX.length := by show j < 15; omega
  have c6 : law_s6 [some (.lck (ns.map D.int)), some v, some (T w), some (.ref 0), none, none, none, none] [.lst (FX.map T)] = some (.nx, [some (.lck (ns.map D.int)), some v, some (T w), some (.ref 0), some (.ref 1), none, none, none],
      [.lst (FX.map T), .lst ([FX[j], List.replicate 101 40 ++ List.replicate 101 41, List.replicate 100 40 ++ List.replicate 100 41].map T)]) := by
    unfold law_s6
    have hs := fun μ => hsc μ
    have x1 : gIx [.lst (FX.map T)] (.ref 0) (.int j) = some (T FX[j]) := ix_texts rfl (List.getElem?_eq_getElem hj2)
    have m15 : ∀ (μ : Mem) (i : Int), gModI μ (.int i) (.int 15) = some (.int (i % 15)) := fun μ i => DL.mod_int (by decide)
    have a1 : ∀ μ, gAdd μ (T (List.replicate 101 40)) (T (List.replicate 101 41)) = some (T (List.replicate 101 40 ++ List.replicate 101 41)) := fun μ => add_str (by simp)
    have a2 : ∀ μ, gAdd μ (T (List.replicate 100 40)) (T (List.replicate 100 41)) = some (T (List.replicate 100 40 ++ List.replicate 100 41)) := fun μ => add_str (by simp)
    have r1 := r101
    have r2 := q101
    have r3 := r100
    have r4 := q100
    rw [List.map_cons, List.map_cons, List.map_cons, List.map_nil]
    unfold T at *
    generalize S (List.replicate 101 40 ++ List.replicate 101 41) = Y1 at *
    generalize S (List.replicate 100 40 ++ List.replicate 100 41) = Y2 at *
    generalize S (List.replicate 101 40) = Y3 at *
    generalize S (List.replicate 101 41) = Y4 at *
    generalize S (List.replicate 100 40) = Y5 at *
    generalize S (List.replicate 100 41) = Y6 at *
    generalize S FX[j] = Y7 at *
    generalize FX.map (fun u => D.str (S u)) = FL at *
    generalize ns.map D.int = NS at *
    generalize S w = Z at *
    simp [hs, hf0, m15, hj, x1, r1, r2, r3, r4, a1, a2]
  have ok6 : ∀ u ∈ [FX[j], List.replicate 101 40 ++ List.replicate 101 41, List.replicate 100 40 ++ List.replicate 100 41], Ok 20000 u := by
    intro u hu
    simp only [List.mem_cons, List.not_mem_nil, or_false] at hu
    have rp : ∀ (a b : Nat), a ≤ 200 → Ok 20000 (List.replicate a 40 ++ List.replicate a 41) := fun a b hab => ⟨by simp; omega, fun x hx => by
      rcases List.mem_append.mp hx with q | q <;> · have := List.eq_of_mem_replicate q; omega⟩
    rcases hu with rfl | rfl | rfl
    · exact (ok_fx _ (List.getElem_mem hj2)).le (by decide)
    · exact rp 101 0 (by decide)
    · exact rp 100 0 (by decide)
  generalize hus0 : [FX[j], List.replicate 101 40 ++ List.replicate 101 41, List.replicate 100 40 ++ List.replicate 100 41] = us0 at *
  have hus0l : us0.length = 3 := by rw [← hus0]; rfl
  generalize FX.map T = FL at *
  have d5 : ∀ (μ : Mem) (i : Int), gDivI μ (.int i) (.int 5) = some (.int (i / 5)) := fun μ i => DL.div_int ⟨by decide, by decide⟩
  have d9 : ∀ (μ : Mem) (i : Int), gDivI μ (.int i) (.int 9) = some (.int (i / 9)) := fun μ i => DL.div_int ⟨by decide, by decide⟩
  -- three texts of the text
  have c7 : ∃ (us : List (List Nat)) (o : Option D), law_l3 [some (.lck (ns.map D.int)), some v, some (T w), some (.ref 0), some (.ref 1), none, none, none] [.lst FL, .lst (us0.map T)] = some (.nx, [some (.lck (ns.map D.int)), some v, some (T w), some (.ref 0), some (.ref 1), o, none, none], [.lst FL, .lst (us.map T)]) ∧ us.length = 6 ∧ ∀ u ∈ us, Ok 20001 u := by
    unfold law_l3
    rw [sFor_of (iR1_of (n := 3) (by simp) (by decide))]
    obtain ⟨sd2, μ2, h1, us, o, hl, hok, hsd, hmu⟩ := loop_nx (chk := fun _ => True) (t := gD 5) (b := law_b3) (fun i : Nat => D.int i)
      (fun dn sd μ => ∃ (us : List (List Nat)) (o : Option D), us.length = 3 + dn.length ∧ (∀ u ∈ us, Ok 20001 u) ∧ sd = [some (.lck (ns.map D.int)), some v, some (T w), some (.ref 0), some (.ref 1), o, none, none] ∧ μ = [.lst FL, .lst (us.map T)]) (List.range 3) [] _ _ ⟨us0, none, hus0l, fun u hu => (ok6 u hu).le (by decide), rfl, rfl⟩ (by
        rintro dn k rest sd μ he ⟨us, o, hl, hok', rfl, rfl⟩
        have hk : k < 3 := by
          have : k ∈ List.range 3 := by rw [show List.range 3 = dn ++ k :: rest from he]; simp
          simpa using this
        have hdn : dn.length < 3 := by have := congrArg List.length he; simp at this; omega
        obtain ⟨c, hc⟩ := hcell (61 - k)
        have hcast : ((61 - k : Nat) : Int) = 61 - (k : Int) := by omega
        rw [hcast] at hc
        have mk : ∀ μ, gMulA μ (.int 11) (.int k) = some (.int (11 * k)) := fun μ => mulA (small_mul 20 20 (by decide) (by omega))
        obtain ⟨u, hu, hu2⟩ := spoilt_eq w ((if c < 0 then -c else c) / 5 + 11 * k + ns.length) 20000 (by decide) hok
        have ap := app_texts (FXL := FL) (us := us) (u := u) (by omega)
        refine ⟨_, _, rfl, [some (.lck (ns.map D.int)), some v, some (T w), some (.ref 0), some (.ref 1), some (.int k), none, none], [.lst FL, .lst ((us ++ [u]).map T)], ?_, trivial, us ++ [u], _, by simp; omega, fun x hx => ?_, rfl, rfl⟩
        · unfold law_b3
          have hs := fun μ => hsc μ
          have islt : isLst [.lst FL, .lst (us.map T)] (.ref 1) = some (us.map T) := rfl
          have habs : ∀ μ, gAbs μ [.int c] = some (.int (if c < 0 then -c else c)) := fun μ => abs_int μ c
          generalize (us ++ [u]).map T = US2 at *
          generalize us.map T = US at *
          generalize (if c < 0 then -c else c) = ac at *
          unfold T at *
          generalize S u = U at *
          generalize S w = Z at *
          generalize ns.map D.int = NS at *
          simp [hs, hc, mk, d5, hsl, hu, ap, islt, habs, -isl_ref, -abs_int]
        · rcases List.mem_append.mp hx with q | q
          · exact hok' x q
          · rw [List.mem_singleton.mp q]; exact hu2)
    rw [hsd, hmu] at h1
    exact ⟨us, o, h1, by simpa using hl, hok⟩
  obtain ⟨us7, o7, e7, hl7, ok7⟩ := c7
  -- two texts of these
  have c8 : ∃ (us : List (List Nat)) (o : Option D), law_l2 [some (.lck (ns.map D.int)), some v, some (T w), some (.ref 0), some (.ref 1), o7, none, none] [.lst FL, .lst (us7.map T)] = some (.nx, [some (.lck (ns.map D.int)), some v, some (T w), some (.ref 0), some (.ref 1), o, none, none], [.lst FL, .lst (us.map T)]) ∧ us.length ≤ 10 ∧ ∀ u ∈ us, Ok 20010 u := by
    unfold law_l2
    rw [sFor_of (iR1_of (n := 2) (by simp) (by decide))]
    obtain ⟨sd2, μ2, h1, us, o, hl, hok, hsd, hmu⟩ := loop_nx (chk := fun _ => True) (t := gD 5) (b := law_b2) (fun i : Nat => D.int i)
      (fun dn sd μ => ∃ (us : List (List Nat)) (o : Option D), us.length = 6 + dn.length ∧ (∀ u ∈ us, Ok (20001 + dn.length) u) ∧ sd = [some (.lck (ns.map D.int)), some v, some (T w), some (.ref 0), some (.ref 1), o, none, none] ∧ μ = [.lst FL, .lst (us.map T)]) (List.range 2) [] _ _ ⟨us7, o7, hl7, ok7, rfl, rfl⟩ (by
        rintro dn k rest sd μ he ⟨us, o, hl, hok', rfl, rfl⟩
        have hk : k < 2 := by
          have : k ∈ List.range 2 := by rw [show List.range 2 = dn ++ k :: rest from he]; simp
          simpa using this
        have hdn : dn.length < 2 := by have := congrArg List.length he; simp at this; omega
        obtain ⟨c, hc⟩ := hcell k
        have hlt : 3 + k < us.length := by omega
        have x1 : gIx [.lst FL, .lst (us.map T)] (.ref 1) (.int ((3 + k : Nat) : Int)) = some (T us[3 + k]) := ix_texts rfl (List.getElem?_eq_getElem hlt)
        have hcast : ((3 + k : Nat) : Int) = 3 + (k : Int) := by omega
        rw [hcast] at x1
        obtain ⟨u, hu, hu2⟩ := spoilt_eq us[3 + k] ((if c < 0 then -c else c) / 9) (20001 + dn.length) (by omega) (hok' _ (List.getElem_mem hlt))
        have ap := app_texts (FXL := FL) (us := us) (u := u) (by omega)
        refine ⟨_, _, rfl, [some (.lck (ns.map D.int)), some v, some (T w), some (.ref 0), some (.ref 1), some (.int k), none, none], [.lst FL, .lst ((us ++ [u]).map T)], ?_, trivial, us ++ [u], _, by simp; omega, fun x hx => ?_, rfl, rfl⟩
        · unfold law_b2
          have hs := fun μ => hsc μ
          have islt : isLst [.lst FL, .lst (us.map T)] (.ref 1) = some (us.map T) := rfl
          have habs : ∀ μ, gAbs μ [.int c] = some (.int (if c < 0 then -c else c)) := fun μ => abs_int μ c
          generalize us[3 + k] = uk at *
          generalize (us ++ [u]).map T = US2 at *
          generalize us.map T = US at *
          generalize (if c < 0 then -c else c) = ac at *
          unfold T at *
          generalize S u = U at *
          generalize S uk = UK at *
          generalize S w = Z at *
          generalize ns.map D.int = NS at *
          simp [hs, hc, d9, hu, ap, islt, habs, x1, -isl_ref, -abs_int]
        · rw [List.length_append]
          rcases List.mem_append.mp hx with q | q
          · exact (hok' x q).le (by omega)
          · rw [List.mem_singleton.mp q]; exact hu2)
    rw [hsd, hmu] at h1
    exact ⟨us, o, h1, by simp at hl; omega, fun u hu => (hok u hu).le (by simp)⟩
  obtain ⟨us8, o8, e8, hl8, ok8⟩ := c8
  -- each is read as due
  have c9 : ∃ (o : Option D), law_l1 [some (.lck (ns.map D.int)), some v, some (T w), some (.ref 0), some (.ref 1), o8, none, none] [.lst FL, .lst (us8.map T)] = some (.nx, [some (.lck (ns.map D.int)), some v, some (T w), some (.ref 0), some (.ref 1), o8, o, none], [.lst FL, .lst (us8.map T)]) := by
    have hit : ∃ chk : Mem → Prop, iSeq (eV 4) [some (.lck (ns.map D.int)), some v, some (T w), some (.ref 0), some (.ref 1), o8, none, none] [.lst FL, .lst (us8.map T)] = some (.ok (us8.map T, chk), [.lst FL, .lst (us8.map T)]) ∧ chk [.lst FL, .lst (us8.map T)] := by
      refine ⟨_, by rw [iSeq_e]; rfl, ?_⟩
      first | rfl | trivial
    obtain ⟨chk, hit, hchk⟩ := hit
    unfold law_l1
    rw [sFor_of hit]
    obtain ⟨sd2, μ2, h1, o, hsd, hmu⟩ := loop_nx (chk := chk) (t := gD 6) (b := law_b1) T
      (fun dn sd μ => ∃ (o : Option D), sd = [some (.lck (ns.map D.int)), some v, some (T w), some (.ref 0), some (.ref 1), o8, o, none] ∧ μ = [.lst FL, .lst (us8.map T)]) us8 [] _ _ ⟨none, rfl, rfl⟩ (by
        rintro dn u rest sd μ he ⟨o, rfl, rfl⟩
        have hu : u ∈ us8 := by rw [show us8 = dn ++ u :: rest from he]; simp
        have hd := as_due u (by have := (ok8 u hu).1; omega) (ok8 u hu).2
        refine ⟨_, _, rfl, [some (.lck (ns.map D.int)), some v, some (T w), some (.ref 0), some (.ref 1), o8, some (T u), none], _, ?_, hchk, _, rfl, rfl⟩
        unfold law_b1
        generalize us8.map T = US at *
        unfold T at *
        generalize S u = U at *
        generalize S w = Z at *
        generalize ns.map D.int = NS at *
        simp [hd])
    rw [hsd, hmu] at h1
    exact ⟨o, h1⟩
  obtain ⟨o9, e9⟩ := c9
  have c10 := s10_go (some (.lck (ns.map D.int))) (some v) (some (T w)) (some (.ref 0)) (some (.ref 1)) o8 o9 [.lst FL, .lst (us8.map T)]
  unfold m_law b_law
  rw [runF_def]
  show (match sSeq _ _ [some (.lck (ns.map D.int)), none, none, none, none, none, none, none] [] with
    | some (.ret d, _, _) => some (Except.ok d)
    | some (.nx, _, _) => some (.ok .non)
    | some (.exc e, _, _) => some (.error e)
    | _ => none) = (some (Except.ok (.bl true)) : Option (Except Exn D))
  rw [sSeq_of c1, sSeq_of c2, sSeq_of c3, sSeq_of c4, sSeq_of c5, sSeq_of c6, sSeq_of e7, sSeq_of e8, sSeq_of e9, sSeq_ret c10]
end LK
set_option maxHeartbeats 4000000
open PySem PySem.W PySem.Calls PyProof.Rows
theorem PySem.Challenge.cw_liftedliars_k00_value_texts_holds : PySem.Challenge.rw_liftedliars_k00_value_texts.Holds := by
  w_on; o_law
  refine HandSHeadRun.head_any (r := OpenLaw.row PySem.Challenge.rw_liftedliars_k00_value_texts) (q := view (OpenLaw.row PySem.Challenge.rw_liftedliars_k00_value_texts).prog [25]) (H := LK.hk) (ob := LK.ob) (M := 3000) (loose := LK.loose) (d := HandSHeadRun.topDef (OpenLaw.row PySem.Challenge.rw_liftedliars_k00_value_texts).prog 25) (kwd := []) LK.ob_eq
    (by kernel_rfl) (fun s => by kernel_rfl) LK.run (by kernel_rfl) (by kernel_rfl) (by kernel_rfl) (by rfl) (by first | assumption | decide +kernel) (by decide +kernel) ⟨rfl, rfl, rfl, rfl, rfl, by decide +kernel⟩ ?hw ?hc
  case hw => w_witness2
  case hc =>
    refine DL.law_end (l := PySem.Challenge.rw_liftedliars_k00_value_texts) (n := 63) (lv := 113) (par := "script") rfl (by decide) (by kernel_rfl) ⟨rfl, by decide, by decide⟩ ?F
    intro w mg fa h Y G hmg0
    obtain ⟨K, KX, c⟩ := Y
    have hmg : mg ("law" : PySem.Str) = some (.ref fa) := by
      have e : (HandSHeadRun.topDef (OpenLaw.row PySem.Challenge.rw_liftedliars_k00_value_texts).prog 25).name = ("law" : PySem.Str) := by kernel_rfl
      rw [← e]
      exact hmg0
    obtain ⟨fd, hb, hF⟩ := LK.facts (w := w) KX G hmg c
    exact ⟨K, fd, LK.m_law, KX, hb, LK.law_true, hF⟩
