import PyProof.Rows.All
import Wide.All
import OpenK.AllK
import Wide.FinOn
import HandS.ForMost
import HandS.ForExc
import HandS.CallSlots
import HandS.Evl
import HandS.Wide
import HandS.TupAny
import HandS.TupMul
import HandS.Deep
import HandS.IsInst
import HandS.Zip
import HandS.Rev
import KE.KStateDown
import HandS.More
import HandS.Defaults
import HandS.Head0
import HandS.Head1
import HandS.Head2
import HandS.HeadEnd
import HandS.HeadHook1
import HandS.HeadHook2
import HandS.Words
import HandS.WordsExc
import PySem.Challenge.RW_liftedliars_k07_claims_and_blends
set_option Elab.async false
set_option linter.all false
set_option maxRecDepth 100000
set_option maxHeartbeats 4000000
/-! DL, part a: values without a heap, what stands for what, and how it is carried along. -/
namespace DL
open PySem PySem.Spec PyProof.Rows L2

/-- a value of Python as plain data -/
inductive D where
  | non | bl (b : Bool) | int (i : Int) | str (s : Str)
  | tup (ds : List D)
  /-- a list that came in as an argument: read only -/
  | lst (ds : List D)
  /-- .. that is locked (the script) -/
  | lck (ds : List D)
  /-- a list made since the entry of the def, held by other data, no longer changed -/
  | fr (ds : List D)
  /-- a list just made, nobody else's -/
  | new (ds : List D)
  /-- a changing object of this frame, by its number -/
  | ref (n : Nat)
  /-- a class or a def of the text, by its name -/
  | glob (x : Str)
  /-- a built-in class -/
  | ty (n : String)
  /-- an instance of a class of the text that stays as it is -/
  | obj (C : Str) (fs : List (Str × D))
  /-- .. that came in as an argument and may change behind the call -/
  | bor (C : Str) (fs : List (Str × D))
  /-- an exception that is handled -/
  | exh (a : Addr)

/-- a changing object -/
inductive MO where
  | lst (ds : List D)
  | ins (C : Str) (fs : List (Str × D))

abbrev Sl := List (Option D)
abbrev Mem := List MO

/-- an exception in flight: its class, its own attributes -/
structure Exn where
  cls : Str
  fs : List (Str × D)

/-! ### what may leave a def -/
mutual
def plain : D → Bool
  | .non | .bl _ | .int _ | .str _ | .glob _ | .ty _ => true
  | .tup ds => plainL ds
  | .fr ds => plainL ds
  | .obj _ fs => plainF fs
  | _ => false
def plainL : List D → Bool
  | [] => true
  | d :: ds => plain d && plainL ds
def plainF : List (Str × D) → Bool
  | [] => true
  | (_, d) :: ds => plain d && plainF ds
end
def outOk : D → Bool
  | .new ds => plainL ds
  | d => plain d

/-! ### what stands for what -/
/-- a tuple of the written part -/
def Kt (K : PySem.W.Frag) (a : Addr) (xs : List V) : Prop :=
  ∃ (o : Obj) (its : Array Value) (n : Nat), K.lookup a = some o ∧ o.cls = .type "tuple" ∧ o.data = .seq its n ∧ its.size ≤ sizeLine ∧ Vals xs its.toList
def TupAt (K : PySem.W.Frag) (av θ : List Addr) (H : Hp) (a : Addr) (xs : List V) : Prop := (a ∉ θ ∧ a ∉ av ∧ Rd H a (.tup xs)) ∨ Kt K a xs
theorem TupAt.sq {K : PySem.W.Frag} {av θ : List Addr} {H : Hp} {a : Addr} {xs : List V} (h : TupAt K av θ H a xs) : SqT K H a xs := by
  rcases h with ⟨_, _, h⟩ | h
  · exact .inl h
  · exact .inr h
abbrev Mg := Str → Option Value
section
variable (K : PySem.W.Frag) (mg : Mg) (H0 : Hp) (av θ : List Addr) (H : Hp)
mutual
def rep : D → V → Prop
  | .non, v => v = .non
  | .bl b, v => v = .bl b
  | .int i, v => v = .int i
  | .str s, v => v = .str s
  | .tup ds, v => ∃ a xs, v = .ref a ∧ TupAt K av θ H a xs ∧ repL ds xs
  | .lst ds, v => ∃ a xs, v = .ref a ∧ H0 a = some (.lst xs) ∧ repL ds xs
  | .lck ds, v => ∃ a xs, v = .ref a ∧ SqL K H0 a xs ∧ repL ds xs
  | .fr ds, v => ∃ a xs, v = .ref a ∧ a ∉ θ ∧ a ∉ av ∧ H0 a = none ∧ H a = some (.lst xs) ∧ repL ds xs
  | .new ds, v => ∃ a xs, v = .ref a ∧ a ∉ θ ∧ a ∉ av ∧ H0 a = none ∧ H a = some (.lst xs) ∧ repL ds xs
  | .ref n, v => ∃ a, v = .ref a ∧ θ[n]? = some a
  | .glob x, v => ∃ a, v = .ref a ∧ mg x = some (.ref a)
  | .ty n, v => v = .ty n
  | .obj C fs, v => ∃ a c dx vs, v = .ref a ∧ a ∉ θ ∧ a ∉ av ∧ mg C = some (.ref c) ∧ H a = some (.ins c dx vs) ∧ repF fs vs
  | .bor C fs, v => ∃ a c dx vs, v = .ref a ∧ mg C = some (.ref c) ∧ H0 a = some (.ins c dx vs) ∧ repF fs vs
  | .exh a, v => v = .ref a
def repL : List D → List V → Prop
  | [], xs => xs = []
  | d :: ds, xs => ∃ x r, xs = x :: r ∧ rep d x ∧ repL ds r
def repF : List (Str × D) → List (Str × V) → Prop
  | [], xs => xs = []
  | (k, d) :: ds, xs => ∃ x r, xs = (k, x) :: r ∧ rep d x ∧ repF ds r
end
def repO : MO → Addr → Prop
  | .lst ds, a => ∃ xs, H a = some (.lst xs) ∧ repL K mg H0 av θ H ds xs
  | .ins C fs, a => ∃ c dx vs, mg C = some (.ref c) ∧ H a = some (.ins c dx vs) ∧ repF K mg H0 av θ H fs vs
/-- a value handed back -/
def repR (d : D) (v : V) : Prop := outOk d = true ∧ rep K mg H0 av [] H d v ∧ ∀ ds, d = .new ds → ∃ p xs, v = .ref p ∧ H p = some (.lst xs) ∧ repL K mg H0 (p :: av) [] H ds xs
def repX (e : Exn) (cls : Value) (dd : Option Addr) : Prop :=
  (∃ c d vs, mg e.cls = some (.ref c) ∧ cls = .ref c ∧ dd = some d ∧ d ∉ θ ∧ d ∉ av ∧ H d = some (.xd vs) ∧ plainF e.fs = true ∧ repF K mg H0 av θ H e.fs vs) ∨
  (e.fs = [] ∧ ∃ T : String, mg e.cls = none ∧ e.cls = T ∧ cls = .type T)
end

/-! ### carrying -/
def Exh (H H' : Hp) : Prop := ∀ a o, H a = some o → H' a = some o
theorem Exh.refl (H : Hp) : Exh H H := fun _ _ h => h
theorem Exh.trans {H H1 H2 : Hp} (a : Exh H H1) (b : Exh H1 H2) : Exh H H2 := fun x o h => b x o (a x o h)
theorem Exh.new {H : Hp} {p : Addr} {o : HO} (h : H p = none) : Exh H (upd H p o) := fun a u e => by
  rw [upd_ne (ne_of_none e h)]; exact e
theorem Exh.mut {H H' : Hp} {p : Addr} {o : HO} (e : Exh H H') (h : H p = none) : Exh H (upd H' p o) := fun a u ha => by
  rw [upd_ne (ne_of_none ha h)]; exact e a u ha
theorem Exh.back {H H' : Hp} (e : Exh H H') {a : Addr} (h : H' a = none) : H a = none := by
  cases q : H a with
  | none => rfl
  | some o => rw [e a o q] at h; cases h
theorem Exh.rd {H H' : Hp} (e : Exh H H') {a : Addr} {u : HO} (h : Rd H a u) : Rd H' a u := by
  rcases h with h | ⟨o, h⟩
  · exact .inl (e _ _ h)
  · exact .inr ⟨o, e _ _ h⟩

/-- from one state of a frame to a later one: new objects may be owned, owned ones may change -/
structure Gr (θ θ' : List Addr) (H H' : Hp) : Prop where
  pre : θ <+: θ'
  nw : ∀ a ∈ θ', a ∉ θ → H a = none
  keep : ∀ a o, a ∉ θ → H a = some o → H' a = some o
section
variable {K : PySem.W.Frag} {mg : Mg} {H0 H H1 H2 H' : Hp} {av θ θ1 θ2 θ' : List Addr}
theorem Gr.of_ex (e : Exh H H') : Gr θ θ H H' := ⟨List.prefix_refl _, fun a h n => absurd h n, fun a o _ h => e a o h⟩
theorem Gr.refl : Gr θ θ H H := Gr.of_ex (Exh.refl H)
theorem Gr.mem (g : Gr θ θ' H H') {a : Addr} (h : a ∈ θ) : a ∈ θ' := g.pre.subset h
theorem Gr.notin (g : Gr θ θ' H H') {a : Addr} {o : HO} (h : a ∉ θ) (e : H a = some o) : a ∉ θ' := fun q => by
  rw [g.nw a q h] at e; cases e
theorem Gr.trans (g : Gr θ θ1 H H1) (f : Gr θ1 θ2 H1 H2) : Gr θ θ2 H H2 where
  pre := g.pre.trans f.pre
  nw := fun a h n => by
    by_cases q : a ∈ θ1
    · exact g.nw a q n
    · have z := f.nw a h q
      cases e : H a with
      | none => rfl
      | some o => rw [g.keep a o n e] at z; cases z
  keep := fun a o n e => f.keep a o (g.notin n e) (g.keep a o n e)
theorem Gr.get (g : Gr θ θ' H H') {n : Nat} {a : Addr} (h : θ[n]? = some a) : θ'[n]? = some a := by
  obtain ⟨r, rfl⟩ := g.pre
  rw [List.getElem?_append_left]
  · exact h
  · exact (List.getElem?_eq_some_iff.mp h).1

variable {bv : List Addr}
/-- what an object that is not this frame's does from one state to another -/
abbrev Goes (av bv θ θ' : List Addr) (H H' : Hp) : Prop := ∀ a o, a ∉ θ → a ∉ av → H a = some o → a ∉ θ' ∧ a ∉ bv ∧ H' a = some o
theorem TupAt.tr (k : Goes av bv θ θ' H H') {a : Addr} {xs : List V} (h : TupAt K av θ H a xs) : TupAt K bv θ' H' a xs := by
  rcases h with ⟨n, m, h | ⟨o, h⟩⟩ | h
  · obtain ⟨k1, k2, k3⟩ := k a _ n m h
    exact .inl ⟨k1, k2, .inl k3⟩
  · obtain ⟨k1, k2, k3⟩ := k a _ n m h
    exact .inl ⟨k1, k2, .inr ⟨o, k3⟩⟩
  · exact .inr h
mutual
theorem rep.tr (ht : ∀ (n : Nat) (a : Addr), θ[n]? = some a → θ'[n]? = some a) (k : Goes av bv θ θ' H H') : ∀ (d : D) (v : V), rep K mg H0 av θ H d v → rep K mg H0 bv θ' H' d v
  | .non, _, h => h
  | .bl _, _, h => h
  | .int _, _, h => h
  | .str _, _, h => h
  | .tup ds, _, ⟨a, xs, e, t, r⟩ => ⟨a, xs, e, t.tr k, repL.tr ht k ds xs r⟩
  | .lst ds, _, ⟨a, xs, e, t, r⟩ => ⟨a, xs, e, t, repL.tr ht k ds xs r⟩
  | .lck ds, _, ⟨a, xs, e, t, r⟩ => ⟨a, xs, e, t, repL.tr ht k ds xs r⟩
  | .fr ds, _, ⟨a, xs, e, n, m, f, t, r⟩ => ⟨a, xs, e, (k a _ n m t).1, (k a _ n m t).2.1, f, (k a _ n m t).2.2, repL.tr ht k ds xs r⟩
  | .new ds, _, ⟨a, xs, e, n, m, f, t, r⟩ => ⟨a, xs, e, (k a _ n m t).1, (k a _ n m t).2.1, f, (k a _ n m t).2.2, repL.tr ht k ds xs r⟩
  | .ref _, _, ⟨a, e, h⟩ => ⟨a, e, ht _ _ h⟩
  | .glob _, _, h => h
  | .ty _, _, h => h
  | .obj _ fs, _, ⟨a, c, dx, vs, e, n, m, hc, t, r⟩ => ⟨a, c, dx, vs, e, (k a _ n m t).1, (k a _ n m t).2.1, hc, (k a _ n m t).2.2, repF.tr ht k fs vs r⟩
  | .bor _ fs, _, ⟨a, c, dx, vs, e, hc, t, r⟩ => ⟨a, c, dx, vs, e, hc, t, repF.tr ht k fs vs r⟩
  | .exh _, _, h => h
theorem repL.tr (ht : ∀ (n : Nat) (a : Addr), θ[n]? = some a → θ'[n]? = some a) (k : Goes av bv θ θ' H H') : ∀ (ds : List D) (xs : List V), repL K mg H0 av θ H ds xs → repL K mg H0 bv θ' H' ds xs
  | [], _, h => h
  | d :: ds, _, ⟨x, r, e, h, t⟩ => ⟨x, r, e, rep.tr ht k d x h, repL.tr ht k ds r t⟩
theorem repF.tr (ht : ∀ (n : Nat) (a : Addr), θ[n]? = some a → θ'[n]? = some a) (k : Goes av bv θ θ' H H') : ∀ (ds : List (Str × D)) (xs : List (Str × V)), repF K mg H0 av θ H ds xs → repF K mg H0 bv θ' H' ds xs
  | [], _, h => h
  | (_, d) :: ds, _, ⟨x, r, e, h, t⟩ => ⟨x, r, e, rep.tr ht k d x h, repF.tr ht k ds r t⟩
end
theorem repO.tr (ht : ∀ (n : Nat) (a : Addr), θ[n]? = some a → θ'[n]? = some a) (k : Goes av bv θ θ' H H') {mo : MO} {a : Addr} (q : ∀ o, H a = some o → H' a = some o) (h : repO K mg H0 av θ H mo a) : repO K mg H0 bv θ' H' mo a := by
  cases mo with
  | lst ds => obtain ⟨xs, h, r⟩ := h; exact ⟨xs, q _ h, repL.tr ht k _ _ r⟩
  | ins C fs => obtain ⟨c, dx, vs, hc, h, r⟩ := h; exact ⟨c, dx, vs, hc, q _ h, repF.tr ht k _ _ r⟩
theorem Gr.goes (g : Gr θ θ' H H') : Goes av av θ θ' H H' := fun a o n m h => ⟨g.notin n h, m, g.keep a o n h⟩
theorem TupAt.gr (g : Gr θ θ' H H') {a : Addr} {xs : List V} (h : TupAt K av θ H a xs) : TupAt K av θ' H' a xs := h.tr g.goes
theorem rep.gr (g : Gr θ θ' H H') (d : D) (v : V) (h : rep K mg H0 av θ H d v) : rep K mg H0 av θ' H' d v := rep.tr (fun _ _ => g.get) g.goes d v h
theorem repL.gr (g : Gr θ θ' H H') (ds : List D) (xs : List V) (h : repL K mg H0 av θ H ds xs) : repL K mg H0 av θ' H' ds xs := repL.tr (fun _ _ => g.get) g.goes ds xs h
theorem repF.gr (g : Gr θ θ' H H') (ds : List (Str × D)) (xs : List (Str × V)) (h : repF K mg H0 av θ H ds xs) : repF K mg H0 av θ' H' ds xs := repF.tr (fun _ _ => g.get) g.goes ds xs h

/-- what a frame's plain state stands for -/
structure RS (K : PySem.W.Frag) (mg : Mg) (H0 : Hp) (av θ : List Addr) (sd : Sl) (μ : Mem) (σ : L2.St) (H : Hp) : Prop where
  ex : Exh H0 H
  fr : ∀ a ∈ θ, H0 a = none
  nd : θ.Nodup
  len : θ.length = μ.length
  mem : ∀ (n : Nat) (mo : MO) (a : Addr), μ[n]? = some mo → θ[n]? = some a → repO K mg H0 av θ H mo a
  avs : ∀ a ∈ av, a ∉ θ ∧ ∃ o, H a = some o ∧ Mut (some o)
  sl : σ.length = sd.length ∧ ∀ (i : Nat) (d : D), sd[i]? = some (some d) → ∃ v, σ[i]? = some (some v) ∧ rep K mg H0 av θ H d v

theorem repO.is {mo : MO} {a : Addr} (h : repO K mg H0 av θ H mo a) : ∃ o, H a = some o ∧ Mut (some o) := by
  cases mo with
  | lst ds => obtain ⟨xs, h, _⟩ := h; exact ⟨_, h, trivial⟩
  | ins C fs => obtain ⟨c, dx, vs, _, h, _⟩ := h; exact ⟨_, h, trivial⟩
variable {sd : Sl} {μ : Mem} {σ : L2.St}
theorem RS.has (R : RS K mg H0 av θ sd μ σ H) {a : Addr} (h : a ∈ θ) : ∃ o, H a = some o ∧ Mut (some o) := by
  obtain ⟨n, hn, e⟩ := List.getElem_of_mem h
  have hm : n < μ.length := by rw [← R.len]; exact hn
  exact (R.mem n μ[n] a (List.getElem?_eq_getElem hm) (by rw [List.getElem?_eq_getElem hn, e])).is
/-- nothing that stood is gone -/
theorem RS.back {sd' : Sl} {μ' : Mem} {σ' : L2.St} (R : RS K mg H0 av θ' sd' μ' σ' H') (g : Gr θ θ' H H') {a : Addr} (h : H' a = none) : H a = none := by
  by_cases q : a ∈ θ
  · obtain ⟨o, e, _⟩ := R.has (g.mem q)
    rw [h] at e; cases e
  · cases e : H a with
    | none => rfl
    | some o => rw [g.keep a o q e] at h; cases h
theorem repO.gr (g : Gr θ θ' H H') {mo : MO} {a : Addr} (k : ∀ o, H a = some o → H' a = some o) (h : repO K mg H0 av θ H mo a) : repO K mg H0 av θ' H' mo a := repO.tr (fun _ _ => g.get) g.goes k h
/-- a heap that has grown -/
theorem RS.grow (R : RS K mg H0 av θ sd μ σ H) (e : Exh H H') : RS K mg H0 av θ sd μ σ H' where
  ex := R.ex.trans e
  fr := R.fr
  nd := R.nd
  len := R.len
  mem := fun n mo a h1 h2 => (R.mem n mo a h1 h2).gr (Gr.of_ex e) fun o q => e _ _ q
  avs := fun a h => let ⟨n, o, q, m⟩ := R.avs a h; ⟨n, o, e _ _ q, m⟩
  sl := ⟨R.sl.1, fun i d h => let ⟨v, q, r⟩ := R.sl.2 i d h; ⟨v, q, rep.gr (Gr.of_ex e) _ _ r⟩⟩
/-- other slots -/
theorem RS.slots (R : RS K mg H0 av θ sd μ σ H) {sd' : Sl} {σ' : L2.St} (h : σ'.length = sd'.length ∧ ∀ (i : Nat) (d : D), sd'[i]? = some (some d) → ∃ v, σ'[i]? = some (some v) ∧ rep K mg H0 av θ H d v) :
    RS K mg H0 av θ sd' μ σ' H := ⟨R.ex, R.fr, R.nd, R.len, R.mem, R.avs, h⟩
/-- the slots of a state, carried to a later one -/
theorem RS.sls (R : RS K mg H0 av θ sd μ σ H) (g : Gr θ θ' H H') : σ.length = sd.length ∧ ∀ (i : Nat) (d : D), sd[i]? = some (some d) → ∃ v, σ[i]? = some (some v) ∧ rep K mg H0 av θ' H' d v :=
  ⟨R.sl.1, fun i d h => let ⟨v, q, r⟩ := R.sl.2 i d h; ⟨v, q, rep.gr g _ _ r⟩⟩
theorem RS.set (R : RS K mg H0 av θ sd μ σ H) (i : Nat) {d : D} {v : V} (r : rep K mg H0 av θ H d v) : RS K mg H0 av θ (sd.set i (some d)) μ (σ.set i (some v)) H := by
  refine R.slots ⟨by rw [List.length_set, List.length_set]; exact R.sl.1, fun j e h => ?_⟩
  by_cases q : j = i
  · subst q
    have hj : j < sd.length := by
      have := (List.getElem?_eq_some_iff.mp h).1
      rw [List.length_set] at this
      exact this
    rw [List.getElem?_set_self hj] at h
    obtain rfl : d = e := Option.some.inj (Option.some.inj h)
    exact ⟨v, by rw [List.getElem?_set_self (by rw [R.sl.1]; exact hj)], r⟩
  · rw [List.getElem?_set_ne (Ne.symm q)] at h
    rw [List.getElem?_set_ne (Ne.symm q)]
    exact R.sl.2 j e h
theorem RS.unset (R : RS K mg H0 av θ sd μ σ H) (i : Nat) : RS K mg H0 av θ (sd.set i none) μ (σ.set i none) H := by
  refine R.slots ⟨by rw [List.length_set, List.length_set]; exact R.sl.1, fun j e h => ?_⟩
  by_cases q : j = i
  · subst q
    have hj : j < sd.length := by
      have := (List.getElem?_eq_some_iff.mp h).1
      rw [List.length_set] at this
      exact this
    rw [List.getElem?_set_self hj] at h
    cases h
  · rw [List.getElem?_set_ne (Ne.symm q)] at h
    rw [List.getElem?_set_ne (Ne.symm q)]
    exact R.sl.2 j e h
/-! ### more, or less, to be kept away from -/
theorem goes_few (hb : ∀ b ∈ bv, b ∈ av) : Goes av bv θ θ H H := fun a o n m h => ⟨n, fun q => m (hb _ q), h⟩
theorem rep.few (hb : ∀ b ∈ bv, b ∈ av) (d : D) (v : V) (h : rep K mg H0 av θ H d v) : rep K mg H0 bv θ H d v := rep.tr (fun _ _ h => h) (goes_few hb) d v h
theorem repL.few (hb : ∀ b ∈ bv, b ∈ av) (ds : List D) (xs : List V) (h : repL K mg H0 av θ H ds xs) : repL K mg H0 bv θ H ds xs := repL.tr (fun _ _ h => h) (goes_few hb) ds xs h
theorem repO.few (hb : ∀ b ∈ bv, b ∈ av) {mo : MO} {a : Addr} (h : repO K mg H0 av θ H mo a) : repO K mg H0 bv θ H mo a := repO.tr (fun _ _ h => h) (goes_few hb) (fun _ h => h) h
theorem RS.avw (hb : ∀ b ∈ bv, b ∈ av) (R : RS K mg H0 av θ sd μ σ H) : RS K mg H0 bv θ sd μ σ H :=
  ⟨R.ex, R.fr, R.nd, R.len, fun n mo a h1 h2 => (R.mem n mo a h1 h2).few hb, fun a q => R.avs a (hb a q), R.sl.1, fun i d h => let ⟨v, q, r⟩ := R.sl.2 i d h; ⟨v, q, rep.few hb _ _ r⟩⟩

/-- what stands in a heap without p avoids p in any later one -/
theorem goes_push {p : Addr} (g : Gr θ θ' H H') (n : H p = none) : Goes av (p :: av) θ θ' H H' := fun a o m k h => ⟨g.notin m h, fun q => by
  rcases List.mem_cons.mp q with q | q
  · subst q; rw [n] at h; cases h
  · exact k q, g.keep a o m h⟩
theorem rep.push {p : Addr} (g : Gr θ θ' H H') (n : H p = none) (d : D) (v : V) (h : rep K mg H0 av θ H d v) : rep K mg H0 (p :: av) θ' H' d v := rep.tr (fun _ _ => g.get) (goes_push g n) d v h
theorem repL.push {p : Addr} (g : Gr θ θ' H H') (n : H p = none) (ds : List D) (xs : List V) (h : repL K mg H0 av θ H ds xs) : repL K mg H0 (p :: av) θ' H' ds xs := repL.tr (fun _ _ => g.get) (goes_push g n) ds xs h
theorem RS.notin (R : RS K mg H0 av θ sd μ σ H) {p : Addr} (n : H p = none) : p ∉ θ := fun q => by
  obtain ⟨o, e, _⟩ := R.has q
  rw [n] at e; cases e
theorem RS.notav (R : RS K mg H0 av θ sd μ σ H) {p : Addr} (n : H p = none) : p ∉ av := fun q => by
  obtain ⟨_, o, e, _⟩ := R.avs p q
  rw [n] at e; cases e
theorem RS.h0 (R : RS K mg H0 av θ sd μ σ H) {p : Addr} (n : H p = none) : H0 p = none := R.ex.back n
/-- the heap has grown, by a changing object at p among others: all avoid p -/
theorem RS.push (R : RS K mg H0 av θ sd μ σ H) {p : Addr} {o : HO} (e : Exh H H') (n : H p = none) (h : H' p = some o) (m : Mut (some o)) : RS K mg H0 (p :: av) θ sd μ σ H' where
  ex := R.ex.trans e
  fr := R.fr
  nd := R.nd
  len := R.len
  mem := fun k mo a h1 h2 => (R.mem k mo a h1 h2).tr (fun _ _ h => h) (goes_push (Gr.of_ex e) n) fun _ q => e _ _ q
  avs := fun a q => by
    rcases List.mem_cons.mp q with q | q
    · subst q; exact ⟨R.notin n, o, h, m⟩
    · obtain ⟨k, u, hu, mu⟩ := R.avs a q
      exact ⟨k, u, e _ _ hu, mu⟩
  sl := ⟨R.sl.1, fun i d h => let ⟨v, q, r⟩ := R.sl.2 i d h; ⟨v, q, rep.push (Gr.of_ex e) n _ _ r⟩⟩
/-- an avoided object has changed -/
theorem goes_upd {p : Addr} {o : HO} (hp : p ∈ av) : Goes av av θ θ H (upd H p o) := fun a u n m h => ⟨n, m, by rw [upd_ne (fun z => m (by rw [z]; exact hp))]; exact h⟩
theorem RS.updAv (R : RS K mg H0 av θ sd μ σ H) {p : Addr} {o : HO} (hp : p ∈ av) (f : H0 p = none) (m : Mut (some o)) : RS K mg H0 av θ sd μ σ (upd H p o) where
  ex := R.ex.mut f
  fr := R.fr
  nd := R.nd
  len := R.len
  mem := fun k mo a h1 h2 => (R.mem k mo a h1 h2).tr (fun _ _ h => h) (goes_upd hp) fun u q => by
    rw [upd_ne (fun z => (R.avs p hp).1 (by rw [← z]; exact List.mem_of_getElem? h2))]; exact q
  avs := fun a q => by
    obtain ⟨k, u, hu, mu⟩ := R.avs a q
    by_cases z : a = p
    · subst z; exact ⟨k, o, upd_same, m⟩
    · exact ⟨k, u, by rw [upd_ne z]; exact hu, mu⟩
  sl := ⟨R.sl.1, fun i d h => let ⟨v, q, r⟩ := R.sl.2 i d h; ⟨v, q, rep.tr (fun _ _ h => h) (goes_upd hp) _ _ r⟩⟩

/-! ### an avoided object comes into the frame's hands -/
theorem get_app {p : Addr} (n : Nat) (a : Addr) (h : θ[n]? = some a) : (θ ++ [p])[n]? = some a := by
  rw [List.getElem?_append_left (List.getElem?_eq_some_iff.mp h).1]; exact h
theorem goes_take {p : Addr} : Goes (p :: av) av θ (θ ++ [p]) H H := fun a o n m h => ⟨fun q => by
  rcases List.mem_append.mp q with q | q
  · exact n q
  · exact m (by rw [List.mem_singleton.mp q]; exact List.mem_cons_self), fun q => m (List.mem_cons_of_mem _ q), h⟩
theorem rep.take {p : Addr} (d : D) (v : V) (h : rep K mg H0 (p :: av) θ H d v) : rep K mg H0 av (θ ++ [p]) H d v := rep.tr get_app goes_take d v h
theorem repL.take {p : Addr} (ds : List D) (xs : List V) (h : repL K mg H0 (p :: av) θ H ds xs) : repL K mg H0 av (θ ++ [p]) H ds xs := repL.tr get_app goes_take ds xs h
theorem RS.take (R : RS K mg H0 av θ sd μ σ H) {p : Addr} (eb : av = p :: bv) (hp : p ∉ bv) (f : H0 p = none) {mo : MO} (r : repO K mg H0 bv (θ ++ [p]) H mo p) : RS K mg H0 bv (θ ++ [p]) sd (μ ++ [mo]) σ H where
  ex := R.ex
  fr := fun a q => by
    rcases List.mem_append.mp q with q | q
    · exact R.fr a q
    · rw [List.mem_singleton.mp q]; exact f
  nd := List.nodup_append.mpr ⟨R.nd, by simp, fun a h1 b h2 e => (R.avs p (by rw [eb]; exact List.mem_cons_self)).1 (by rw [List.mem_singleton.mp h2] at e; rw [← e]; exact h1)⟩
  len := by rw [List.length_append, List.length_append, R.len]; rfl
  mem := fun k m a h1 h2 => by
    by_cases q : k < μ.length
    · rw [List.getElem?_append_left q] at h1
      rw [List.getElem?_append_left (by rw [R.len]; exact q)] at h2
      have z := R.mem k m a h1 h2
      rw [eb] at z
      exact z.tr get_app goes_take fun _ h => h
    · rw [List.getElem?_append_right (Nat.le_of_not_lt q)] at h1
      rw [List.getElem?_append_right (by rw [R.len]; exact Nat.le_of_not_lt q), R.len] at h2
      have e : k - μ.length = 0 := by
        have := (List.getElem?_eq_some_iff.mp h1).1
        simp at this
        exact this
      rw [e] at h1 h2
      obtain rfl : mo = m := Option.some.inj h1
      obtain rfl : p = a := Option.some.inj h2
      exact r
  avs := fun a q => by
    obtain ⟨n, o, h⟩ := R.avs a (by rw [eb]; exact List.mem_cons_of_mem _ q)
    refine ⟨fun z => ?_, o, h⟩
    rcases List.mem_append.mp z with z | z
    · exact n z
    · rw [List.mem_singleton.mp z] at q
      exact hp q
  sl := ⟨R.sl.1, fun i d h => by
    obtain ⟨v, q, r⟩ := R.sl.2 i d h
    rw [eb] at r
    exact ⟨v, q, rep.take _ _ r⟩⟩
end
end DL

/-! DL, part b: what an expression, a test, a statement does to the plain state, as readings. -/
namespace DL
open PySem PySem.Spec PyProof.Rows L2

abbrev R3 (α : Type) := Option (Except Exn α × Mem)
abbrev EE := Sl → Mem → R3 D
abbrev ET := Sl → Mem → R3 Bool
abbrev EA := Sl → Mem → R3 (List D)
def bE {α β : Type} (m : R3 α) (k : α → Mem → R3 β) : R3 β := match m with
  | none => none
  | some (.error e, μ) => some (.error e, μ)
  | some (.ok x, μ) => k x μ
def ok3 {α : Type} (x : α) (μ : Mem) : R3 α := some (.ok x, μ)
@[simp] theorem bE_ok {α β : Type} (x : α) (μ : Mem) (k : α → Mem → R3 β) : bE (some (.ok x, μ)) k = k x μ := rfl
@[simp] theorem bE_ok3 {α β : Type} (x : α) (μ : Mem) (k : α → Mem → R3 β) : bE (ok3 x μ) k = k x μ := rfl
@[simp] theorem bE_err {α β : Type} (x : Exn) (μ : Mem) (k : α → Mem → R3 β) : bE (some (.error x, μ)) k = some (.error x, μ) := rfl
@[simp] theorem bE_none {α β : Type} (k : α → Mem → R3 β) : bE none k = none := rfl

inductive Flow where
  | nx | ret (d : D) | brk | ct | exc (e : Exn)
abbrev SR := Option (Flow × Sl × Mem)
abbrev SS := Sl → Mem → SR

section
variable (K : PySem.W.Frag) (mg : Mg) (H0 : Hp) (W : WX)
/-- how a plain result stands for a result: avoided, owned, the heaps ahead and behind, what is new and avoided -/
abbrev Rel (α β : Type) := List Addr → List Addr → Hp → Hp → List Addr → α → β → Prop
def relD : Rel D V := fun av θ H H' nv d v => rep K mg H0 av θ H' d v ∧ ∀ ds, d = .new ds → ∃ p xs, v = .ref p ∧ nv = [p] ∧ H p = none ∧ H' p = some (.lst xs) ∧ repL K mg H0 (p :: av) θ H' ds xs
def relB : Rel Bool Bool := fun _ _ _ _ _ b c => c = b
def relA : Rel (List D) (List V) := fun av θ _ H' _ ds vs => repL K mg H0 av θ H' ds vs
def Post {α β : Type} (rel : Rel α β) (av θ : List Addr) (sd : Sl) (σ : L2.St) (H : Hp) (Q : β → Hp → Prop) (o : R3 α) : Prop := match o with
  | none => False
  | some (.ok x, μ') => ∀ (y : β) (θ' : List Addr) (H' : Hp) (nv : List Addr), Gr θ θ' H H' → RS K mg H0 (nv ++ av) θ' sd μ' σ H' → rel av θ' H H' nv x y → Q y H'
  | some (.error e, μ') => ∀ (cls : Value) (dd : Option Addr) (θ' : List Addr) (H' : Hp), Gr θ θ' H H' → RS K mg H0 av θ' sd μ' σ H' → repX K mg H0 av θ' H' e cls dd → W cls dd σ H'
def tE (f : EE) : TE := fun σ H Q => ∃ av θ sd μ, RS K mg H0 av θ sd μ σ H ∧ Post K mg H0 W (relD K mg H0) av θ sd σ H Q (f sd μ)
def tT (f : ET) : TT := fun σ H Q => ∃ av θ sd μ, RS K mg H0 av θ sd μ σ H ∧ Post K mg H0 W relB av θ sd σ H Q (f sd μ)
def tA (f : EA) : TA := fun σ H Q => ∃ av θ sd μ, RS K mg H0 av θ sd μ σ H ∧ Post K mg H0 W (relA K mg H0) av θ sd σ H Q (f sd μ)
def PostS (av θ : List Addr) (H : Hp) (E : Ends) (o : SR) : Prop := match o with
  | none => False
  | some (.nx, sd', μ') => ∀ σ' θ' H', Gr θ θ' H H' → RS K mg H0 av θ' sd' μ' σ' H' → E.nx σ' H'
  | some (.brk, sd', μ') => ∀ σ' θ' H', Gr θ θ' H H' → RS K mg H0 av θ' sd' μ' σ' H' → E.bk σ' H'
  | some (.ct, sd', μ') => ∀ σ' θ' H', Gr θ θ' H H' → RS K mg H0 av θ' sd' μ' σ' H' → E.ct σ' H'
  | some (.ret d, _, _) => ∀ v H', Exh H0 H' → repR K mg H0 av H' d v → E.rt v H'
  | some (.exc e, sd', μ') => ∀ cls dd σ' θ' H', Gr θ θ' H H' → RS K mg H0 av θ' sd' μ' σ' H' → repX K mg H0 av θ' H' e cls dd → W cls dd σ' H'
def tS (f : SS) : TS := fun E σ H => ∃ av θ sd μ, RS K mg H0 av θ sd μ σ H ∧ PostS K mg H0 W av θ H E (f sd μ)
end

/-- nothing is let out -/
abbrev WF : WX := fun _ _ _ _ => False

section
variable {K : PySem.W.Frag} {mg : Mg} {H0 : Hp} {W : WX} {av θ θ1 : List Addr} {sd : Sl} {μ μ1 : Mem} {σ : L2.St} {H H1 : Hp}
/-- a relation that asks no more of an earlier start -/
def Anti {α β : Type} (rel : Rel α β) : Prop := ∀ av θ (H H1 H' : Hp) nv x y, (∀ a, H1 a = none → H a = none) → rel av θ H1 H' nv x y → rel av θ H H' nv x y
theorem antiD : Anti (relD K mg H0) := fun _ _ _ _ _ _ _ _ h ⟨r, n⟩ => ⟨r, fun ds e => let ⟨p, xs, a, b, c, f⟩ := n ds e; ⟨p, xs, a, b, h _ c, f⟩⟩
theorem antiB : Anti relB := fun _ _ _ _ _ _ _ _ _ r => r
theorem antiA : Anti (relA K mg H0) := fun _ _ _ _ _ _ _ _ _ r => r
theorem RS.plain {nv : List Addr} (R : RS K mg H0 (nv ++ av) θ sd μ σ H) : RS K mg H0 av θ sd μ σ H := R.avw fun b h => List.mem_append_right _ h
theorem Post.rebase {α β : Type} {rel : Rel α β} {Q : β → Hp → Prop} {o : R3 α} (an : Anti rel) (P : Post K mg H0 W rel av θ sd σ H Q o) (g : Gr θ θ1 H H1) (R : RS K mg H0 av θ1 sd μ1 σ H1) :
    Post K mg H0 W rel av θ1 sd σ H1 Q o := by
  match o, P with
  | some (.ok x, μ'), P => exact fun y θ' H' nv g' R' r => P y θ' H' nv (g.trans g') R' (an _ _ _ _ _ _ _ _ (fun a h => R.back g h) r)
  | some (.error e, μ'), P => exact fun cls dd θ' H' g' R' r => P cls dd θ' H' (g.trans g') R' r
theorem Post.bind {α β γ δ : Type} {rel : Rel α β} {rel1 : Rel γ δ} {Q : β → Hp → Prop} {Q1 : δ → Hp → Prop} {m : R3 γ} {k : γ → Mem → R3 α} (an : Anti rel) (P : Post K mg H0 W rel av θ sd σ H Q (bE m k))
    (h : ∀ (x : γ) (μ1 : Mem) (y : δ) (θ1 : List Addr) (H1 : Hp) (nv : List Addr), Gr θ θ1 H H1 → RS K mg H0 (nv ++ av) θ1 sd μ1 σ H1 → rel1 av θ1 H H1 nv x y → Post K mg H0 W rel av θ1 sd σ H1 Q (k x μ1) → Q1 y H1) :
    Post K mg H0 W rel1 av θ sd σ H Q1 m := by
  match m, P with
  | some (.ok x, μ'), P =>
    exact fun y θ' H' nv g R r => h x μ' y θ' H' nv g R r (Post.rebase an (show Post K mg H0 W rel av θ sd σ H Q (k x μ') from P) g R.plain)
  | some (.error e, μ'), P => exact P
theorem PostS.rebase {E : Ends} {o : SR} (P : PostS K mg H0 W av θ H E o) (g : Gr θ θ1 H H1) : PostS K mg H0 W av θ1 H1 E o := by
  match o, P with
  | some (.nx, _, _), P => exact fun σ' θ' H' g' R => P σ' θ' H' (g.trans g') R
  | some (.brk, _, _), P => exact fun σ' θ' H' g' R => P σ' θ' H' (g.trans g') R
  | some (.ct, _, _), P => exact fun σ' θ' H' g' R => P σ' θ' H' (g.trans g') R
  | some (.ret d, _, _), P => exact P
  | some (.exc e, _, _), P => exact fun cls dd σ' θ' H' g' R r => P cls dd σ' θ' H' (g.trans g') R r

variable {X : Cx} {e : Expr} {es : List Expr} {st : Stmt} {sts : List Stmt}
theorem wkE {t t' : TE} (h : PE X e t) (w : ∀ σ H Q, t' σ H Q → t σ H Q) : PE X e t' := ⟨fun pins s σ H Q I q => h.run pins s σ H Q I (w σ H Q q)⟩
theorem wkT {t t' : TT} (h : PT X e t) (w : ∀ σ H Q, t' σ H Q → t σ H Q) : PT X e t' := ⟨fun pins s σ H Q I q => h.run pins s σ H Q I (w σ H Q q)⟩
theorem wkW {t t' : TT} (h : PW X e t) (w : ∀ σ H Q, t' σ H Q → t σ H Q) : PW X e t' := ⟨fun wh pins s σ H Q I q => h.run wh pins s σ H Q I (w σ H Q q)⟩
theorem wkA {t t' : TA} (h : PA X es t) (w : ∀ σ H Q, t' σ H Q → t σ H Q) : PA X es t' := ⟨fun pos pins s σ H Q I q => h.run pos pins s σ H Q I (w σ H Q q)⟩
theorem wkS {t t' : TS} (h : PS X st t) (w : ∀ E σ H, t' E σ H → t E σ H) : PS X st t' := ⟨fun pins s σ H E I q => h.run pins s σ H E I (w E σ H q)⟩
theorem wkSs {t t' : TS} (h : PSs X sts t) (w : ∀ E σ H, t' E σ H → t E σ H) : PSs X sts t' := ⟨fun pins s σ H E I q => h.run pins s σ H E I (w E σ H q)⟩

/-! ### the parts, as plain functions -/
def eC (d : D) : EE := fun _ μ => some (.ok d, μ)
def eV (i : Nat) : EE := fun sd μ => match sd[i]? with
  | some (some (.new _)) => none
  | some (some d) => some (.ok d, μ)
  | _ => none
/-- a list just made is taken into the frame's hands -/
def eOwn (f : EE) : EE := fun sd μ => match f sd μ with
  | some (.ok (.new ds), μ1) => some (.ok (.ref μ1.length), μ1 ++ [.lst ds])
  | r => r
def eBin (g : Mem → D → D → Option D) (fa fb : EE) : EE := fun sd μ => bE (fa sd μ) fun x μ1 => bE (fb sd μ1) fun y μ2 => (g μ2 x y).map fun d => (.ok d, μ2)
def eUn (g : Mem → D → Option D) (fa : EE) : EE := fun sd μ => bE (fa sd μ) fun x μ1 => (g μ1 x).map fun d => (.ok d, μ1)
def eNil : EA := fun _ μ => some (.ok [], μ)
def eCons (f : EE) (g : EA) : EA := fun sd μ => bE (f sd μ) fun d μ1 => bE (g sd μ1) fun ds μ2 => some (.ok (d :: ds), μ2)
/-- a built-in called -/
def eCB (g : Mem → List D → Option D) (fa : EA) : EE := fun sd μ => bE (fa sd μ) fun xs μ1 => (g μ1 xs).map fun d => (.ok d, μ1)
def eTup (f : EA) : EE := fun sd μ => bE (f sd μ) fun ds μ1 => if ds.length ≤ sizeLine then some (.ok (.tup ds), μ1) else none
def eLst (f : EA) : EE := fun sd μ => bE (f sd μ) fun ds μ1 => if ds.length ≤ sizeLine then some (.ok (.new ds), μ1) else none
def eIf (t : ET) (fa fb : EE) : EE := fun sd μ => bE (t sd μ) fun b μ1 => if b then fa sd μ1 else fb sd μ1
def eAnd (fa fb : EE) : EE := fun sd μ => bE (fa sd μ) fun x μ1 => match x with
  | .bl true => fb sd μ1
  | .bl false => some (.ok (.bl false), μ1)
  | _ => none
def eOr (fa fb : EE) : EE := fun sd μ => bE (fa sd μ) fun x μ1 => match x with
  | .bl true => some (.ok (.bl true), μ1)
  | .bl false => fb sd μ1
  | _ => none
def eNot (fa : EE) : EE := fun sd μ => bE (fa sd μ) fun x μ1 => match x with
  | .bl b => some (.ok (.bl (!b)), μ1)
  | _ => none
/-- a test that is a True or False -/
def qB (f : EE) : ET := fun sd μ => bE (f sd μ) fun x μ1 => match x with
  | .bl b => some (.ok b, μ1)
  | _ => none
def qAnd (t u : ET) : ET := fun sd μ => bE (t sd μ) fun b μ1 => if b then u sd μ1 else some (.ok false, μ1)
def qOr (t u : ET) : ET := fun sd μ => bE (t sd μ) fun b μ1 => if b then some (.ok true, μ1) else u sd μ1
def qNot (t : ET) : ET := fun sd μ => bE (t sd μ) fun b μ1 => some (.ok (!b), μ1)

/-! ### names and constants -/
theorem pd_var (i : Nat) {x : Str} {pos : Pos} (hN : X.N[i]? = some x := by rfl) (hv : Vis X.env.scope x := by first | exact Or.inl rfl | exact Or.inr (Or.inl rfl) | exact Or.inr (Or.inr rfl))
    (hd : (x == ("__debug__" : Str)) = false := by decide) (hcd : (x == ("__classdict__" : Str)) = false := by decide) : PE X (.Name x pos) (tE K mg H0 W (eV i)) := by
  refine wkE (pe_var hN hv hd hcd) fun σ H Q ⟨av, θ, sd, μ, R, P⟩ => ?_
  unfold eV at P
  cases h : sd[i]? with
  | none => rw [h] at P; exact P.elim
  | some o =>
    cases o with
    | none => rw [h] at P; exact P.elim
    | some d =>
      rw [h] at P
      obtain ⟨v, hv, r⟩ := R.sl.2 i d h
      refine ⟨v, hv, ?_⟩
      cases d with
      | new ds => exact P.elim
      | _ => exact P v θ H [] Gr.refl R ⟨r, fun _ e => by cases e⟩
theorem pd_c {d : D} {v : V} (h : PE X e (tC v)) (hr : ∀ av θ (H : Hp), rep K mg H0 av θ H d v) (hn : ∀ ds, d ≠ .new ds) : PE X e (tE K mg H0 W (eC d)) :=
  wkE h fun _ H _ ⟨av, θ, sd, μ, R, P⟩ => P v θ H [] Gr.refl R ⟨hr av θ H, fun ds e => absurd e (hn ds)⟩
theorem pd_int {i j pos} : PE X (.Constant (.int i) j pos) (tE K mg H0 W (eC (.int i))) := pd_c pe_int (fun _ _ _ => rfl) (fun _ => by intro e; cases e)
theorem pd_bl {b j pos} : PE X (.Constant (.bool b) j pos) (tE K mg H0 W (eC (.bl b))) := pd_c pe_bl (fun _ _ _ => rfl) (fun _ => by intro e; cases e)
theorem pd_non {j pos} : PE X (.Constant .none j pos) (tE K mg H0 W (eC .non)) := pd_c pe_non (fun _ _ _ => rfl) (fun _ => by intro e; cases e)
theorem pd_str {x j pos} : PE X (.Constant (.str x) j pos) (tE K mg H0 W (eC (.str x))) := pd_c pe_str (fun _ _ _ => rfl) (fun _ => by intro e; cases e)
/-- a module's constant -/
theorem pd_glob {x : Str} {u : Value} {v : V} {d : D} {pos : Pos} (hg : Gl X x) (hm : X.mg x = some u) (r : RelV v u) (hr : ∀ av θ (H : Hp), rep K mg H0 av θ H d v) (hn : ∀ ds, d ≠ .new ds) (hd : (x == ("__debug__" : Str)) = false := by decide) :
    PE X (.Name x pos) (tE K mg H0 W (eC d)) := pd_c (pe_glob hg hm r hd) hr hn
/-- taken into the frame's hands -/
theorem own_read {f : EE} {Q : VK} (hh : tE K mg H0 W (eOwn f) σ H Q) : tE K mg H0 W f σ H Q := by
  obtain ⟨av, θ, sd, μ, R, P⟩ := hh
  refine ⟨av, θ, sd, μ, R, ?_⟩
  unfold eOwn at P
  cases q : f sd μ with
  | none => rw [q] at P; exact P
  | some z =>
    obtain ⟨r, μ1⟩ := z
    cases r with
    | error e => rw [q] at P; exact P
    | ok d =>
      cases d with
      | new ds =>
        rw [q] at P
        intro v θ' H' nv g R' ⟨r, fn⟩
        obtain ⟨p, xs, rfl, rfl, hp, hl, rl⟩ := fn ds rfl
        obtain ⟨a, _, ea, n, m, f0, _, _⟩ := r
        cases ea
        have hgr : Gr θ (θ' ++ [p]) H H' := ⟨g.pre.trans (List.prefix_append _ _), fun b hb nb => by
          rcases List.mem_append.mp hb with z | z
          · exact g.nw b z nb
          · rw [List.mem_singleton.mp z]; exact hp, g.keep⟩
        have R2 : RS K mg H0 av (θ' ++ [p]) sd (μ1 ++ [.lst ds]) σ H' := R'.take rfl m f0 ⟨xs, hl, repL.take _ _ rl⟩
        refine P (.ref p) (θ' ++ [p]) H' [] hgr R2 ⟨⟨p, rfl, ?_⟩, fun _ e => by cases e⟩
        rw [← R'.len]
        simp
      | _ => rw [q] at P; exact P
theorem pd_own {f : EE} (h : PE X e (tE K mg H0 W f)) : PE X e (tE K mg H0 W (eOwn f)) := wkE h fun σ H Q q => own_read q

/-! ### operators, calls by values -/
section
variable (X : Cx)
/-- what is asked of a value's rule: from plain values to the wish -/
def Asks (H0 : Hp) (av θ : List Addr) (sd : Sl) (μ : Mem) (σ : L2.St) (H : Hp) (d : D) (Q : VK) : Prop :=
  ∀ v H' nv, Exh H H' → RS X.K X.mg H0 (nv ++ av) θ sd μ σ H' → relD X.K X.mg H0 av θ H H' nv d v → Q v H'
def OpD (f : Value → Value → Sem Value) (g : Mem → D → D → Option D) : Prop := ∀ H0 : Hp, ∃ r : R2, OpR X f r ∧
  ∀ (av θ : List Addr) (sd : Sl) (μ : Mem) (σ : L2.St) (H : Hp) (dx dy : D) (x y : V) (d : D) (Q : VK), RS X.K X.mg H0 av θ sd μ σ H → rep X.K X.mg H0 av θ H dx x → rep X.K X.mg H0 av θ H dy y → g μ dx dy = some d → Asks X H0 av θ sd μ σ H d Q → r x y H Q
def UnD (f : Value → Sem Value) (g : Mem → D → Option D) : Prop := ∀ H0 : Hp, ∃ r : V → Hp → VK → Prop, UnR X f r ∧
  ∀ (av θ : List Addr) (sd : Sl) (μ : Mem) (σ : L2.St) (H : Hp) (dx : D) (x : V) (d : D) (Q : VK), RS X.K X.mg H0 av θ sd μ σ H → rep X.K X.mg H0 av θ H dx x → g μ dx = some d → Asks X H0 av θ sd μ σ H d Q → r x H Q
def CallD (f : Value) (g : Mem → List D → Option D) : Prop := ∀ H0 : Hp, ∃ r : List V → Hp → VK → Prop, CallR X f r ∧
  ∀ (av θ : List Addr) (sd : Sl) (μ : Mem) (σ : L2.St) (H : Hp) (ds : List D) (xs : List V) (d : D) (Q : VK), RS X.K X.mg H0 av θ sd μ σ H → repL X.K X.mg H0 av θ H ds xs → g μ ds = some d → Asks X H0 av θ sd μ σ H d Q → r xs H Q
/-- a value's method, that changes nothing -/
def MtD (id : String) (g : Mem → D → List D → Option D) : Prop := ∀ H0 : Hp, ∃ r : V → List V → Hp → VK → Prop, MtR X id r ∧
  ∀ (av θ : List Addr) (sd : Sl) (μ : Mem) (σ : L2.St) (H : Hp) (dx : D) (x : V) (ds : List D) (xs : List V) (d : D) (Q : VK), RS X.K X.mg H0 av θ sd μ σ H → rep X.K X.mg H0 av θ H dx x → repL X.K X.mg H0 av θ H ds xs → g μ dx ds = some d →
    Asks X H0 av θ sd μ σ H d Q → r x xs H Q
def IxD (g : Mem → D → D → Option D) : Prop := ∀ H0 : Hp, ∃ r : R2, IxR X r ∧
  ∀ (av θ : List Addr) (sd : Sl) (μ : Mem) (σ : L2.St) (H : Hp) (dx dy : D) (x y : V) (d : D) (Q : VK), RS X.K X.mg H0 av θ sd μ σ H → rep X.K X.mg H0 av θ H dx x → rep X.K X.mg H0 av θ H dy y → g μ dx dy = some d → Asks X H0 av θ sd μ σ H d Q → r x y H Q
end
theorem Asks.same {d : D} {v : V} {Q : VK} (h : Asks X H0 av θ sd μ σ H d Q) (R : RS X.K X.mg H0 av θ sd μ σ H) (r : rep X.K X.mg H0 av θ H d v) (n : ∀ ds, d ≠ .new ds) : Q v H :=
  h v H [] (Exh.refl H) R ⟨r, fun ds e => absurd e (n ds)⟩
/-- a new tuple -/
theorem Asks.tup {ds : List D} {xs : List V} {p : Addr} {Q : VK} (h : Asks X H0 av θ sd μ σ H (.tup ds) Q) (R : RS X.K X.mg H0 av θ sd μ σ H) (r : repL X.K X.mg H0 av θ H ds xs) (hp : H p = none) : Q (.ref p) (upd H p (.tup xs)) :=
  h _ _ [] (Exh.new hp) (R.grow (Exh.new hp)) ⟨⟨p, xs, rfl, .inl ⟨R.notin hp, R.notav hp, .inl upd_same⟩, repL.gr (Gr.of_ex (Exh.new hp)) _ _ r⟩, fun _ e => by cases e⟩
theorem repL.grH {ds : List D} {xs : List V} {H' : Hp} (g : Gr θ θ1 H H') (r : repL K mg H0 av θ H ds xs) : repL K mg H0 av θ1 H' ds xs := repL.gr g ds xs r
/-- a new list -/
theorem Asks.lst {ds : List D} {xs : List V} {p : Addr} {Q : VK} (h : Asks X H0 av θ sd μ σ H (.new ds) Q) (R : RS X.K X.mg H0 av θ sd μ σ H) (r : repL X.K X.mg H0 av θ H ds xs) (hp : H p = none) : Q (.ref p) (upd H p (.lst xs)) :=
  h _ _ [p] (Exh.new hp) (R.push (Exh.new hp) hp upd_same trivial)
    ⟨⟨p, xs, rfl, R.notin hp, R.notav hp, R.h0 hp, upd_same, repL.grH (Gr.of_ex (Exh.new hp)) r⟩, fun ds' e => by cases e; exact ⟨p, xs, rfl, rfl, hp, upd_same, repL.push (Gr.of_ex (Exh.new hp)) hp _ _ r⟩⟩
theorem OpD.or {f : Value → Value → Sem Value} {g g' : Mem → D → D → Option D} (h : OpD X f g) (h' : OpD X f g') : OpD X f (fun μ x y => (g μ x y).or (g' μ x y)) := fun H0 => by
  obtain ⟨r, hr, k⟩ := h H0
  obtain ⟨r', hr', k'⟩ := h' H0
  refine ⟨_, OpR.or hr hr', fun av θ sd μ σ H dx dy x y d Q R rx ry e q => ?_⟩
  have e : (g μ dx dy).or (g' μ dx dy) = some d := e
  cases z : g μ dx dy with
  | some u =>
    rw [z] at e
    obtain rfl : u = d := Option.some.inj e
    exact .inl (k av θ sd μ σ H dx dy x y u Q R rx ry z q)
  | none =>
    rw [z] at e
    exact .inr (k' av θ sd μ σ H dx dy x y d Q R rx ry e q)
theorem CallD.or {f : Value} {g g' : Mem → List D → Option D} (h : CallD X f g) (h' : CallD X f g') : CallD X f (fun μ x => (g μ x).or (g' μ x)) := fun H0 => by
  obtain ⟨r, hr, k⟩ := h H0
  obtain ⟨r', hr', k'⟩ := h' H0
  refine ⟨_, CallR.or hr hr', fun av θ sd μ σ H dx x d Q R rx e q => ?_⟩
  have e : (g μ dx).or (g' μ dx) = some d := e
  cases z : g μ dx with
  | some u =>
    rw [z] at e
    obtain rfl : u = d := Option.some.inj e
    exact .inl (k av θ sd μ σ H dx x u Q R rx z q)
  | none =>
    rw [z] at e
    exact .inr (k' av θ sd μ σ H dx x d Q R rx e q)

variable {a b c : Expr} {pos : Pos} {fa fb fc : EE} {ga : EA} {ta tb : ET}
theorem Post.ask {o : Option D} {Q : VK} (P : Post X.K X.mg H0 W (relD X.K X.mg H0) av θ sd σ H Q (o.map fun d => (Except.ok d, μ))) : ∃ d, o = some d ∧ Asks X H0 av θ sd μ σ H d Q := by
  cases o with
  | none => exact P.elim
  | some d => exact ⟨d, rfl, fun v H' nv e R r => P v θ H' nv (Gr.of_ex e) R r⟩
theorem repG {d : D} {v : V} {H' : Hp} (g : Gr θ θ1 H H') (r : rep K mg H0 av θ H d v) : rep K mg H0 av θ1 H' d v := rep.gr g d v r
theorem pd_bin {op : Operator} {g : Mem → D → D → Option D} (ho : OpD X (binaryOp op) g) (ha : PE X a (tE X.K X.mg H0 W fa)) (hb : PE X b (tE X.K X.mg H0 W fb)) : PE X (.BinOp a op b pos) (tE X.K X.mg H0 W (eBin g fa fb)) := by
  obtain ⟨r, hr, k⟩ := ho H0
  refine wkE (pe_op hr ha hb) fun σ H Q ⟨av, θ, sd, μ, R, P⟩ => ⟨av, θ, sd, μ, R, P.bind antiD fun x μ1 v θ1 H1 nv g1 R1 r1 P1 => ?_⟩
  refine ⟨av, θ1, sd, μ1, R1.plain, P1.bind antiD fun y μ2 w θ2 H2 nw g2 R2 r2 P2 => ?_⟩
  obtain ⟨d, hd, q⟩ := P2.ask
  exact k av θ2 sd μ2 σ H2 x y v w d Q R2.plain (repG g2 r1.1) r2.1 hd q
theorem pd_cmp {op : CmpOp} {g : Mem → D → D → Option D} (ho : OpD X (compareOp op) g) (ha : PE X a (tE X.K X.mg H0 W fa)) (hb : PE X b (tE X.K X.mg H0 W fb)) (hm : behindInMarks op b = false) : PE X (.Compare a [op] [b] pos) (tE X.K X.mg H0 W (eBin g fa fb)) := by
  obtain ⟨r, hr, k⟩ := ho H0
  refine wkE (pe_cmpR hr ha hb hm) fun σ H Q ⟨av, θ, sd, μ, R, P⟩ => ⟨av, θ, sd, μ, R, P.bind antiD fun x μ1 v θ1 H1 nv g1 R1 r1 P1 => ?_⟩
  refine ⟨av, θ1, sd, μ1, R1.plain, P1.bind antiD fun y μ2 w θ2 H2 nw g2 R2 r2 P2 => ?_⟩
  obtain ⟨d, hd, q⟩ := P2.ask
  exact k av θ2 sd μ2 σ H2 x y v w d Q R2.plain (repG g2 r1.1) r2.1 hd q
end
end DL

/-! DL, part c: expressions and tests. -/
namespace DL
open PySem PySem.Spec PyProof.Rows L2
section
variable {K : PySem.W.Frag} {mg : Mg} {H0 : Hp} {W : WX} {X : Cx} {a b c e : Expr} {es rest : List Expr} {pos : Pos} {fa fb fc f : EE} {ga g : EA} {ta tb t u : ET}
theorem pd_un {op : UnaryOp} {g : Mem → D → Option D} (ho : UnD X (unaryOp op) g) (ha : PE X a (tE X.K X.mg H0 W fa)) : PE X (.UnaryOp op a pos) (tE X.K X.mg H0 W (eUn g fa)) := by
  obtain ⟨r, hr, k⟩ := ho H0
  refine wkE (pe_un hr ha) fun σ H Q ⟨av, θ, sd, μ, R, P⟩ => ⟨av, θ, sd, μ, R, P.bind antiD fun x μ1 v θ1 H1 nv g1 R1 r1 P1 => ?_⟩
  obtain ⟨d, hd, q⟩ := P1.ask
  exact k av θ1 sd μ1 σ H1 x v d Q R1.plain r1.1 hd q
/-! ### arguments -/
theorem pd_nil : PA X [] (tA X.K X.mg H0 W eNil) := wkA pa_nil fun σ H Q ⟨av, θ, sd, μ, R, P⟩ => P [] θ H [] Gr.refl R rfl
theorem pd_cons (ha : PE X e (tE X.K X.mg H0 W f)) (hr : PA X es (tA X.K X.mg H0 W g)) (hs : starEach (e :: es) X.env = (false, eval e X.env) :: starEach es X.env := by rfl) : PA X (e :: es) (tA X.K X.mg H0 W (eCons f g)) := by
  refine wkA (pa_cons ha hr hs) fun σ H Q ⟨av, θ, sd, μ, R, P⟩ => ⟨av, θ, sd, μ, R, P.bind antiA fun x μ1 v θ1 H1 nv g1 R1 r1 P1 => ?_⟩
  refine ⟨av, θ1, sd, μ1, R1.plain, P1.bind (rel1 := relA X.K X.mg H0) antiA fun ds μ2 vs θ2 H2 nw g2 R2 r2 P2 => ?_⟩
  exact P2 (v :: vs) θ2 H2 [] Gr.refl R2.plain ⟨v, vs, rfl, repG g2 r1.1, r2⟩
theorem Post.tup {av θ : List Addr} {sd : Sl} {μ : Mem} {σ : L2.St} {H : Hp} {Q : VK} {ds : List D} {xs : List V} (R : RS X.K X.mg H0 av θ sd μ σ H) (r : repL X.K X.mg H0 av θ H ds xs)
    (P : Post X.K X.mg H0 W (relD X.K X.mg H0) av θ sd σ H Q (some (.ok (.tup ds), μ))) {p : Addr} (hp : H p = none) : Q (.ref p) (upd H p (.tup xs)) :=
  Asks.tup (fun v H' nv e R r => P v θ H' nv (Gr.of_ex e) R r) R r hp
theorem Post.lst {av θ : List Addr} {sd : Sl} {μ : Mem} {σ : L2.St} {H : Hp} {Q : VK} {ds : List D} {xs : List V} (R : RS X.K X.mg H0 av θ sd μ σ H) (r : repL X.K X.mg H0 av θ H ds xs)
    (P : Post X.K X.mg H0 W (relD X.K X.mg H0) av θ sd σ H Q (some (.ok (.new ds), μ))) {p : Addr} (hp : H p = none) : Q (.ref p) (upd H p (.lst xs)) :=
  Asks.lst (fun v H' nv e R r => P v θ H' nv (Gr.of_ex e) R r) R r hp
theorem repL.length {av θ : List Addr} {H : Hp} : ∀ {ds : List D} {xs : List V}, repL K mg H0 av θ H ds xs → xs.length = ds.length
  | [], xs, h => by
    have h : xs = [] := h
    rw [h]
    rfl
  | d :: ds, _, ⟨x, r, e, _, t⟩ => by rw [e, List.length_cons, List.length_cons, repL.length t]
theorem pd_tup {k : Nat} (h : PA X es (tA X.K X.mg H0 W g)) : PE X (.Tuple es k pos) (tE X.K X.mg H0 W (eTup g)) := by
  refine wkE (pe_tup h) fun σ H Q ⟨av, θ, sd, μ, R, P⟩ => ⟨av, θ, sd, μ, R, P.bind antiD fun ds μ1 vs θ1 H1 nv g1 R1 r1 P1 => ?_⟩
  by_cases z : ds.length ≤ sizeLine
  · rw [if_pos z] at P1
    exact ⟨by rw [repL.length r1]; exact z, fun p hp => P1.tup R1.plain r1 hp⟩
  · rw [if_neg z] at P1; exact P1.elim
theorem pd_lst (h : PA X es (tA X.K X.mg H0 W g)) : PE X (.List es pos) (tE X.K X.mg H0 W (eLst g)) := by
  refine wkE (pe_lst h) fun σ H Q ⟨av, θ, sd, μ, R, P⟩ => ⟨av, θ, sd, μ, R, P.bind antiD fun ds μ1 vs θ1 H1 nv g1 R1 r1 P1 => ?_⟩
  by_cases z : ds.length ≤ sizeLine
  · rw [if_pos z] at P1
    exact ⟨by rw [repL.length r1]; exact z, fun p hp => P1.lst R1.plain r1 hp⟩
  · rw [if_neg z] at P1; exact P1.elim
/-! ### built-ins -/
theorem pd_callB {x : Str} {id : String} {p : Pos} {gg : Mem → List D → Option D} (hc : CallD X (.builtin id) gg) (hg : Gl X x) (hm : X.mg x = none) (hv : bootBuiltins x = some (.builtin id)) (ha : PA X (e :: es) (tA X.K X.mg H0 W g))
    (hn : x ≠ "__name__" := by decide) (hdb : (x == ("__debug__" : Str)) = false := by decide) (he : starEach (e :: es) X.env = (false, eval e X.env) :: starEach es X.env := by rfl) (hpl : (backTo pos (starEach es X.env)).any (·.1) = false := by rfl) :
    PE X (.Call (.Name x p) (e :: es) [] pos) (tE X.K X.mg H0 W (eCB gg g)) := by
  obtain ⟨r, hr, k⟩ := hc H0
  refine wkE (pe_callB hr hg hm hv ha hn hdb he hpl) fun σ H Q ⟨av, θ, sd, μ, R, P⟩ => ⟨av, θ, sd, μ, R, P.bind antiD fun ds μ1 vs θ1 H1 nv g1 R1 r1 P1 => ?_⟩
  obtain ⟨d, hd, q⟩ := P1.ask
  exact k av θ1 sd μ1 σ H1 ds vs d Q R1.plain r1 hd q
theorem pd_callTy {x : Str} {T : String} {p : Pos} {gg : Mem → List D → Option D} (hc : CallD X (.type T) gg) (hg : Gl X x) (hm : X.mg x = none) (hv : bootBuiltins x = some (.type T)) (ha : PA X (e :: es) (tA X.K X.mg H0 W g))
    (hn : x ≠ "__name__" := by decide) (hdb : (x == ("__debug__" : Str)) = false := by decide) (he : starEach (e :: es) X.env = (false, eval e X.env) :: starEach es X.env := by rfl) (hpl : (backTo pos (starEach es X.env)).any (·.1) = false := by rfl) :
    PE X (.Call (.Name x p) (e :: es) [] pos) (tE X.K X.mg H0 W (eCB gg g)) := by
  obtain ⟨r, hr, k⟩ := hc H0
  refine wkE (pe_callTy hr hg hm hv ha hn hdb he hpl) fun σ H Q ⟨av, θ, sd, μ, R, P⟩ => ⟨av, θ, sd, μ, R, P.bind antiD fun ds μ1 vs θ1 H1 nv g1 R1 r1 P1 => ?_⟩
  obtain ⟨d, hd, q⟩ := P1.ask
  exact k av θ1 sd μ1 σ H1 ds vs d Q R1.plain r1 hd q
/-! ### places, slices -/
theorem pd_ix {gg : Mem → D → D → Option D} (hr : IxD X gg) (ha : PE X a (tE X.K X.mg H0 W fa)) (hb : PE X b (tE X.K X.mg H0 W fb)) (hs : PlainIx b) : PE X (.Subscript a b pos) (tE X.K X.mg H0 W (eBin gg fa fb)) := by
  obtain ⟨r, hr, k⟩ := hr H0
  refine wkE (pe_ix hr ha hb hs) fun σ H Q ⟨av, θ, sd, μ, R, P⟩ => ⟨av, θ, sd, μ, R, P.bind antiD fun x μ1 v θ1 H1 nv g1 R1 r1 P1 => ?_⟩
  refine ⟨av, θ1, sd, μ1, R1.plain, P1.bind antiD fun y μ2 w θ2 H2 nw g2 R2 r2 P2 => ?_⟩
  obtain ⟨d, hd, q⟩ := P2.ask
  exact k av θ2 sd μ2 σ H2 x y v w d Q R2.plain (repG g2 r1.1) r2.1 hd q
abbrev EO := Sl → Mem → R3 (Option Int)
def oNone : EO := fun _ μ => some (.ok none, μ)
def oSome (f : EE) : EO := fun sd μ => bE (f sd μ) fun d μ1 => match d with
  | .int i => some (.ok (some i), μ1)
  | _ => none
def relO : Rel (Option Int) (Option Int) := fun _ _ _ _ _ b c => c = b
theorem antiO : Anti relO := fun _ _ _ _ _ _ _ _ _ r => r
def tO (K : PySem.W.Frag) (mg : Mg) (H0 : Hp) (W : WX) (f : EO) : TO := fun σ H Q => ∃ av θ sd μ, RS K mg H0 av θ sd μ σ H ∧ Post K mg H0 W relO av θ sd σ H Q (f sd μ)
theorem wkO {eo : Option Expr} {t t' : TO} (h : PO X eo t) (w : ∀ σ H Q, t' σ H Q → t σ H Q) : PO X eo t' := ⟨fun pins s σ H Q I q => h.run pins s σ H Q I (w σ H Q q)⟩
theorem pd_onone : PO X none (tO X.K X.mg H0 W oNone) := wkO po_none fun σ H Q ⟨av, θ, sd, μ, R, P⟩ => P none θ H [] Gr.refl R rfl
theorem pd_osome (h : PE X e (tE X.K X.mg H0 W f)) : PO X (some e) (tO X.K X.mg H0 W (oSome f)) := by
  refine wkO (po_some h) fun σ H Q ⟨av, θ, sd, μ, R, P⟩ => ⟨av, θ, sd, μ, R, P.bind antiO fun x μ1 v θ1 H1 nv g1 R1 r1 P1 => ?_⟩
  cases x with
  | int i => exact ⟨i, r1.1, P1 (some i) θ1 H1 [] Gr.refl R1.plain rfl⟩
  | _ => exact P1.elim
def SlD (X : Cx) (g : Mem → D → Option Int → Option Int → Option D) : Prop := ∀ H0 : Hp, ∃ r : V → Option Int → Option Int → Hp → VK → Prop, SlR X r ∧
  ∀ (av θ : List Addr) (sd : Sl) (μ : Mem) (σ : L2.St) (H : Hp) (dx : D) (x : V) (lo hi : Option Int) (d : D) (Q : VK), RS X.K X.mg H0 av θ sd μ σ H → rep X.K X.mg H0 av θ H dx x → g μ dx lo hi = some d → Asks X H0 av θ sd μ σ H d Q → r x lo hi H Q
def eSl (g : Mem → D → Option Int → Option Int → Option D) (f : EE) (l h : EO) : EE := fun sd μ => bE (f sd μ) fun x μ1 => bE (l sd μ1) fun i μ2 => bE (h sd μ2) fun j μ3 => (g μ3 x i j).map fun d => (.ok d, μ3)
theorem pd_slice {gg : Mem → D → Option Int → Option Int → Option D} {lo hi : Option Expr} {p2 : Pos} {fl fh : EO} (hr : SlD X gg) (he : PE X e (tE X.K X.mg H0 W f)) (hl : PO X lo (tO X.K X.mg H0 W fl)) (hh : PO X hi (tO X.K X.mg H0 W fh)) :
    PE X (.Subscript e (.Slice lo hi none p2) pos) (tE X.K X.mg H0 W (eSl gg f fl fh)) := by
  obtain ⟨r, hr, k⟩ := hr H0
  refine wkE (pe_slice hr he hl hh) fun σ H Q ⟨av, θ, sd, μ, R, P⟩ => ⟨av, θ, sd, μ, R, P.bind antiD fun x μ1 v θ1 H1 nv g1 R1 r1 P1 => ?_⟩
  refine ⟨av, θ1, sd, μ1, R1.plain, P1.bind (rel1 := relO) antiD fun i μ2 io θ2 H2 nw g2 R2 r2 P2 => ?_⟩
  have r2 : io = i := r2
  subst r2
  refine ⟨av, θ2, sd, μ2, R2.plain, P2.bind (rel1 := relO) antiD fun j μ3 jo θ3 H3 nu g3 R3 r3 P3 => ?_⟩
  have r3 : jo = j := r3
  subst r3
  obtain ⟨d, hd, q⟩ := P3.ask
  exact k av θ3 sd μ3 σ H3 x v io jo d Q R3.plain (repG g3 (repG g2 r1.1)) hd q
/-! ### tests -/
theorem pq_val (h : PE X e (tE X.K X.mg H0 W f)) (he : ∀ whole, isTrue e X.env whole = (do let v ← whole; standAt e.pos; holding [v] (truthy v)) := by intro _; rfl) : PT X e (tT X.K X.mg H0 W (qB f)) := by
  refine wkT (pt_val h he) fun σ H Q ⟨av, θ, sd, μ, R, P⟩ => ⟨av, θ, sd, μ, R, P.bind antiB fun x μ1 v θ1 H1 nv g1 R1 r1 P1 => ?_⟩
  cases x with
  | bl k => exact ⟨k, r1.1, P1 k θ1 H1 [] Gr.refl R1.plain rfl⟩
  | _ => exact P1.elim
theorem pq_cmp {op : CmpOp} {gg : Mem → D → D → Option D} (ho : OpD X (compareOp op) gg) (ha : PE X a (tE X.K X.mg H0 W fa)) (hb : PE X b (tE X.K X.mg H0 W fb)) (hm : behindInMarks op b = false) : PT X (.Compare a [op] [b] pos) (tT X.K X.mg H0 W (qB (eBin gg fa fb))) := by
  obtain ⟨r, hr, k⟩ := ho H0
  refine wkT (pt_cmpR hr ha hb hm) fun σ H Q ⟨av, θ, sd, μ, R, P⟩ => ?_
  have P : Post X.K X.mg H0 W relB av θ sd σ H Q (bE (fa sd μ) fun x μ1 => bE (bE (fb sd μ1) fun y μ2 => (gg μ2 x y).map fun d => (.ok d, μ2)) fun x μ1 => match x with | .bl b => some (.ok b, μ1) | _ => none) := by
    unfold qB eBin at P
    cases h : fa sd μ with
    | none => rw [h] at P; exact P
    | some z =>
      obtain ⟨r, m⟩ := z
      rw [h] at P
      cases r <;> exact P
  refine ⟨av, θ, sd, μ, R, P.bind antiB fun x μ1 v θ1 H1 nv g1 R1 r1 P1 => ?_⟩
  have P1 : Post X.K X.mg H0 W relB av θ1 sd σ H1 Q (bE (fb sd μ1) fun y μ2 => bE ((gg μ2 x y).map fun d => (Except.ok d, μ2)) fun x μ1 => match x with | .bl b => some (.ok b, μ1) | _ => none) := by
    cases h : fb sd μ1 with
    | none => rw [h] at P1; exact P1
    | some z =>
      obtain ⟨r, m⟩ := z
      rw [h] at P1
      cases r <;> exact P1
  refine ⟨av, θ1, sd, μ1, R1.plain, P1.bind antiB fun y μ2 w θ2 H2 nw g2 R2 r2 P2 => ?_⟩
  cases h : gg μ2 x y with
  | none => rw [h] at P2; exact P2.elim
  | some d =>
    rw [h] at P2
    refine k av θ2 sd μ2 σ H2 x y v w d _ R2.plain (repG g2 r1.1) r2.1 h fun u H' nu e R3 r3 => ?_
    cases d with
    | bl q => exact ⟨q, r3.1, P2 q θ2 H' [] (Gr.of_ex e) R3.plain rfl⟩
    | _ => exact P2.elim
theorem pq_not (ha : PT X a (tT X.K X.mg H0 W ta)) : PT X (.UnaryOp .Not a pos) (tT X.K X.mg H0 W (qNot ta)) :=
  wkT (pt_not ha) fun σ H Q ⟨av, θ, sd, μ, R, P⟩ => ⟨av, θ, sd, μ, R, P.bind antiB fun x μ1 v θ1 H1 nv g1 R1 r1 P1 => by
    have r1 : v = x := r1
    subst r1
    exact P1 (!v) θ1 H1 [] Gr.refl R1.plain rfl⟩
theorem pq_and1 (ha : PT X a (tT X.K X.mg H0 W ta)) : PW X (.BoolOp .And [a] pos) (tT X.K X.mg H0 W ta) := pw_and1 ha
theorem pq_or1 (ha : PT X a (tT X.K X.mg H0 W ta)) : PW X (.BoolOp .Or [a] pos) (tT X.K X.mg H0 W ta) := pw_or1 ha
theorem pq_and (ha : PT X a (tT X.K X.mg H0 W ta)) (hb : PW X (.BoolOp .And (b :: rest) pos) (tT X.K X.mg H0 W tb)) : PW X (.BoolOp .And (a :: b :: rest) pos) (tT X.K X.mg H0 W (qAnd ta tb)) :=
  wkW (pw_and ha hb) fun σ H Q ⟨av, θ, sd, μ, R, P⟩ => ⟨av, θ, sd, μ, R, P.bind antiB fun x μ1 v θ1 H1 nv g1 R1 r1 P1 => by
    have r1 : v = x := r1
    subst r1
    cases v with
    | true => exact ⟨av, θ1, sd, μ1, R1.plain, P1⟩
    | false => exact P1 false θ1 H1 [] Gr.refl R1.plain rfl⟩
theorem pq_or (ha : PT X a (tT X.K X.mg H0 W ta)) (hb : PW X (.BoolOp .Or (b :: rest) pos) (tT X.K X.mg H0 W tb)) : PW X (.BoolOp .Or (a :: b :: rest) pos) (tT X.K X.mg H0 W (qOr ta tb)) :=
  wkW (pw_or ha hb) fun σ H Q ⟨av, θ, sd, μ, R, P⟩ => ⟨av, θ, sd, μ, R, P.bind antiB fun x μ1 v θ1 H1 nv g1 R1 r1 P1 => by
    have r1 : v = x := r1
    subst r1
    cases v with
    | true => exact P1 true θ1 H1 [] Gr.refl R1.plain rfl
    | false => exact ⟨av, θ1, sd, μ1, R1.plain, P1⟩⟩
/-! ### and, or, not, if .. else as values -/
theorem pd_if (hc : PT X c (tT X.K X.mg H0 W ta)) (ha : PE X a (tE X.K X.mg H0 W fa)) (hb : PE X b (tE X.K X.mg H0 W fb)) : PE X (.IfExp c a b pos) (tE X.K X.mg H0 W (eIf ta fa fb)) :=
  wkE (pe_ifExp hc ha hb) fun σ H Q ⟨av, θ, sd, μ, R, P⟩ => ⟨av, θ, sd, μ, R, P.bind antiD fun x μ1 v θ1 H1 nv g1 R1 r1 P1 => by
    have r1 : v = x := r1
    subst r1
    cases v with
    | true => exact ⟨av, θ1, sd, μ1, R1.plain, P1⟩
    | false => exact ⟨av, θ1, sd, μ1, R1.plain, P1⟩⟩
theorem pd_one {op : BoolOp} (ha : PE X a (tE X.K X.mg H0 W fa)) : PE X (.BoolOp op [a] pos) (tE X.K X.mg H0 W fa) := pe_one ha
theorem pd_and (ha : PE X a (tE X.K X.mg H0 W fa)) (hb : PE X (.BoolOp .And (b :: rest) pos) (tE X.K X.mg H0 W fb)) : PE X (.BoolOp .And (a :: b :: rest) pos) (tE X.K X.mg H0 W (eAnd fa fb)) :=
  wkE (pe_and ha hb) fun σ H Q ⟨av, θ, sd, μ, R, P⟩ => ⟨av, θ, sd, μ, R, P.bind antiD fun x μ1 v θ1 H1 nv g1 R1 r1 P1 => by
    cases x with
    | bl k =>
      refine ⟨k, r1.1, ?_⟩
      cases k with
      | true => exact ⟨av, θ1, sd, μ1, R1.plain, P1⟩
      | false => exact P1 (.bl false) θ1 H1 [] Gr.refl R1.plain ⟨rfl, fun _ e => by cases e⟩
    | _ => exact P1.elim⟩
theorem pd_or (ha : PE X a (tE X.K X.mg H0 W fa)) (hb : PE X (.BoolOp .Or (b :: rest) pos) (tE X.K X.mg H0 W fb)) : PE X (.BoolOp .Or (a :: b :: rest) pos) (tE X.K X.mg H0 W (eOr fa fb)) :=
  wkE (pe_or ha hb) fun σ H Q ⟨av, θ, sd, μ, R, P⟩ => ⟨av, θ, sd, μ, R, P.bind antiD fun x μ1 v θ1 H1 nv g1 R1 r1 P1 => by
    cases x with
    | bl k =>
      refine ⟨k, r1.1, ?_⟩
      cases k with
      | true => exact P1 (.bl true) θ1 H1 [] Gr.refl R1.plain ⟨rfl, fun _ e => by cases e⟩
      | false => exact ⟨av, θ1, sd, μ1, R1.plain, P1⟩
    | _ => exact P1.elim⟩
theorem pd_not (ha : PE X a (tE X.K X.mg H0 W fa)) : PE X (.UnaryOp .Not a pos) (tE X.K X.mg H0 W (eNot fa)) :=
  wkE (pe_not ha) fun σ H Q ⟨av, θ, sd, μ, R, P⟩ => ⟨av, θ, sd, μ, R, P.bind antiD fun x μ1 v θ1 H1 nv g1 R1 r1 P1 => by
    cases x with
    | bl k => exact ⟨k, r1.1, P1 (.bl (!k)) θ1 H1 [] Gr.refl R1.plain ⟨rfl, fun _ e => by cases e⟩⟩
    | _ => exact P1.elim⟩
end
end DL

/-! DL, part d: statements, targets, loops, comprehensions. -/
namespace DL
open PySem PySem.Spec PyProof.Rows L2

/-! ### statements as plain functions -/
def sSkip : SS := fun sd μ => some (.nx, sd, μ)
def sSeq (f g : SS) : SS := fun sd μ => match f sd μ with
  | some (.nx, sd1, μ1) => g sd1 μ1
  | r => r
/-- what a value's evaluation does at a statement's end -/
def bS (m : R3 D) (sd : Sl) (k : D → Mem → SR) : SR := match m with
  | none => none
  | some (.error e, μ) => some (.exc e, sd, μ)
  | some (.ok x, μ) => k x μ
def sDrop (f : EE) : SS := fun sd μ => bS (f sd μ) sd fun _ μ1 => some (.nx, sd, μ1)
def sIf (t : ET) (a b : SS) : SS := fun sd μ => match t sd μ with
  | none => none
  | some (.error e, μ1) => some (.exc e, sd, μ1)
  | some (.ok true, μ1) => a sd μ1
  | some (.ok false, μ1) => b sd μ1
def sBreak : SS := fun sd μ => some (.brk, sd, μ)
def sCont : SS := fun sd μ => some (.ct, sd, μ)
/-- a target -/
abbrev TgD := Sl → Mem → D → Option (Sl × Mem)
def gD (i : Nat) : TgD := fun sd μ d => match d with
  | .new _ => none
  | d => some (sd.set i (some d), μ)
def sAsg (f : EE) (t : TgD) : SS := fun sd μ => bS (f sd μ) sd fun d μ1 => (t sd μ1 d).map fun z => (.nx, z.1, z.2)

/-! ### what is handed back -/
/-- a value on its way out of the def -/
def outD (μ : Mem) (d : D) : Option D := match d with
  | .new ds => if plainL ds then some (.new ds) else none
  | .ref n => match μ[n]? with
    | some (.lst ds) => if plainL ds then some (.new ds) else none
    | some (.ins C fs) => if plainF fs then some (.obj C fs) else none
    | none => none
  | d => if plain d then some d else none
def sRet (f : EE) : SS := fun sd μ => bS (f sd μ) sd fun d μ1 => (outD μ1 d).map fun d' => (.ret d', sd, μ1)
def sRetN : SS := fun sd μ => some (.ret .non, sd, μ)

section
variable {K : PySem.W.Frag} {mg : Mg} {H0 H H' : Hp} {av θ : List Addr}
theorem TupAt.out {a : Addr} {xs : List V} (h : TupAt K av θ H a xs) : TupAt K av [] H a xs := by
  rcases h with ⟨n, m, h⟩ | h
  · exact .inl ⟨by simp, m, h⟩
  · exact .inr h
mutual
theorem rep.out : ∀ (d : D) (v : V), plain d = true → rep K mg H0 av θ H d v → rep K mg H0 av [] H d v
  | .non, _, _, h => h
  | .bl _, _, _, h => h
  | .int _, _, _, h => h
  | .str _, _, _, h => h
  | .glob _, _, _, h => h
  | .ty _, _, _, h => h
  | .tup ds, _, p, ⟨a, xs, e, t, r⟩ => ⟨a, xs, e, t.out, repL.out ds xs (by simpa [plain] using p) r⟩
  | .fr ds, _, p, ⟨a, xs, e, n, m, f, t, r⟩ => ⟨a, xs, e, by simp, m, f, t, repL.out ds xs (by simpa [plain] using p) r⟩
  | .obj _ fs, _, p, ⟨a, c, dx, vs, e, n, m, hc, t, r⟩ => ⟨a, c, dx, vs, e, by simp, m, hc, t, repF.out fs vs (by simpa [plain] using p) r⟩
  | .new _, _, p, _ => by simp [plain] at p
  | .lst _, _, p, _ => by simp [plain] at p
  | .lck _, _, p, _ => by simp [plain] at p
  | .ref _, _, p, _ => by simp [plain] at p
  | .bor _ _, _, p, _ => by simp [plain] at p
  | .exh _, _, p, _ => by simp [plain] at p
theorem repL.out : ∀ (ds : List D) (xs : List V), plainL ds = true → repL K mg H0 av θ H ds xs → repL K mg H0 av [] H ds xs
  | [], _, _, h => h
  | d :: ds, _, p, ⟨x, r, e, h, t⟩ => by
    simp only [plainL, Bool.and_eq_true] at p
    exact ⟨x, r, e, rep.out d x p.1 h, repL.out ds r p.2 t⟩
theorem repF.out : ∀ (ds : List (Str × D)) (xs : List (Str × V)), plainF ds = true → repF K mg H0 av θ H ds xs → repF K mg H0 av [] H ds xs
  | [], _, _, h => h
  | (_, d) :: ds, _, p, ⟨x, r, e, h, t⟩ => by
    simp only [plainF, Bool.and_eq_true] at p
    exact ⟨x, r, e, rep.out d x p.1 h, repF.out ds r p.2 t⟩
end
theorem repL.outp {p : Addr} {ds : List D} {xs : List V} (q : plainL ds = true) (r : repL K mg H0 (p :: av) θ H ds xs) : repL K mg H0 (p :: av) [] H ds xs := repL.out _ _ q r
theorem out_ok {sd : Sl} {μ : Mem} {σ : L2.St} {H1 : Hp} {nv : List Addr} {d d' : D} {v : V} (R : RS K mg H0 av θ sd μ σ H) (r : relD K mg H0 av θ H1 H nv d v) (h : outD μ d = some d') : repR K mg H0 av H d' v := by
  unfold outD at h
  split at h
  · rename_i ds
    split at h
    · rename_i p
      cases h
      obtain ⟨⟨a, xs, e, n, m, f, t, r⟩, rn⟩ := r
      obtain ⟨p1, ys, e1, _, _, t1, r1⟩ := rn ds rfl
      exact ⟨p, ⟨a, xs, e, by simp, m, f, t, repL.out _ _ p r⟩, fun _ e => by cases e; exact ⟨p1, ys, e1, t1, repL.outp p r1⟩⟩
    · cases h
  · rename_i n
    obtain ⟨⟨a, rfl, hn⟩, _⟩ := r
    have ha : a ∈ θ := List.mem_of_getElem? hn
    split at h
    · rename_i ds hm
      split at h
      · rename_i p
        cases h
        obtain ⟨xs, t, r⟩ := R.mem n _ a hm hn
        have k : Goes av (a :: av) θ θ H H := fun b o n1 m1 e1 => ⟨n1, fun q => (List.mem_cons.mp q).elim (fun z => n1 (by rw [z]; exact ha)) m1, e1⟩
        exact ⟨p, ⟨a, xs, rfl, by simp, fun q => (R.avs a q).1 ha, R.fr a ha, t, repL.out _ _ p r⟩, fun _ e => by cases e; exact ⟨a, xs, rfl, t, repL.outp p (repL.tr (fun _ _ h => h) k _ _ r)⟩⟩
      · cases h
    · rename_i C fs hm
      split at h
      · rename_i p
        cases h
        obtain ⟨c, dx, vs, hc, t, r⟩ := R.mem n _ a hm hn
        exact ⟨p, ⟨a, c, dx, vs, rfl, by simp, fun q => (R.avs a q).1 ha, hc, t, repF.out _ _ p r⟩, fun _ e => by cases e⟩
      · cases h
    · cases h
  · rename_i hn1 hn2
    split at h
    · rename_i p
      cases h
      refine ⟨?_, rep.out _ _ p r.1, fun ds e => absurd e (hn1 ds)⟩
      cases d <;> first | exact p | exact absurd rfl (hn1 _)
    · cases h
end

section
variable {H0 : Hp} {W : WX} {X : Cx} {a b c e : Expr} {es : List Expr} {st : Stmt} {sts body : List Stmt} {pos : Pos} {f : EE} {fs gs : SS} {t : ET} {av θ : List Addr} {sd : Sl} {μ : Mem} {σ : L2.St} {H : Hp}
theorem ps_nil : PSs X [] (tS X.K X.mg H0 W sSkip) := wkSs pss_nil fun E σ H ⟨av, θ, sd, μ, R, P⟩ => P σ θ H Gr.refl R
theorem ps_cons (h1 : PS X st (tS X.K X.mg H0 W fs)) (h2 : PSs X sts (tS X.K X.mg H0 W gs)) : PSs X (st :: sts) (tS X.K X.mg H0 W (sSeq fs gs)) := by
  refine wkSs (pss_cons h1 h2) fun E σ H ⟨av, θ, sd, μ, R, P⟩ => ⟨av, θ, sd, μ, R, ?_⟩
  unfold sSeq at P
  match h : fs sd μ, P with
  | none, P => exact P
  | some (.nx, sd1, μ1), P => exact fun σ' θ' H' g R' => ⟨av, θ', sd1, μ1, R', P.rebase g⟩
  | some (.ret d, sd1, μ1), P => exact P
  | some (.brk, sd1, μ1), P => exact P
  | some (.ct, sd1, μ1), P => exact P
  | some (.exc e, sd1, μ1), P => exact P
theorem ps_one (h1 : PS X st (tS X.K X.mg H0 W fs)) : PSs X [st] (tS X.K X.mg H0 W fs) := pss_one h1
/-- a value, then what a statement does with it -/
theorem PostS.val {E : Ends} {m : R3 D} {k : D → Mem → SR} {Q : VK} (R : RS X.K X.mg H0 av θ sd μ σ H) (P : PostS X.K X.mg H0 W av θ H E (bS m sd k))
    (h : ∀ (x : D) (μ1 : Mem) (y : V) (θ1 : List Addr) (H1 : Hp) (nv : List Addr), Gr θ θ1 H H1 → RS X.K X.mg H0 (nv ++ av) θ1 sd μ1 σ H1 → relD X.K X.mg H0 av θ1 H H1 nv x y → PostS X.K X.mg H0 W av θ1 H1 E (k x μ1) → Q y H1) :
    Post X.K X.mg H0 W (relD X.K X.mg H0) av θ sd σ H Q m := by
  match m, P with
  | some (.ok x, μ'), P => exact fun y θ' H' nv g R r => h x μ' y θ' H' nv g R r (PostS.rebase (show PostS X.K X.mg H0 W av θ H E (k x μ') from P) g)
  | some (.error e, μ'), P => exact fun cls dd θ' H' g R r => P cls dd σ θ' H' g R r
theorem ps_drop (he : PE X e (tE X.K X.mg H0 W f)) (hs : swapsWith e none pos.line X.env = pure false := by rfl) : PS X (.Expr e pos) (tS X.K X.mg H0 W (sDrop f)) :=
  wkS (L2.ps_expr he hs) fun E σ H ⟨av, θ, sd, μ, R, P⟩ => ⟨av, θ, sd, μ, R, P.val R fun x μ1 y θ1 H1 nv g R1 r P1 => P1 σ θ1 H1 Gr.refl R1.plain⟩
theorem ps_iff {c : Expr} {a b : List Stmt} (hc : PT X c (tT X.K X.mg H0 W t)) (ha : PSs X a (tS X.K X.mg H0 W fs)) (hb : PSs X b (tS X.K X.mg H0 W gs)) : PS X (.If c a b pos) (tS X.K X.mg H0 W (sIf t fs gs)) := by
  refine wkS (L2.ps_if hc ha hb) fun E σ H ⟨av, θ, sd, μ, R, P⟩ => ⟨av, θ, sd, μ, R, ?_⟩
  unfold sIf at P
  match h : t sd μ, P with
  | none, P => exact P
  | some (.error e, μ1), P => exact fun cls dd θ' H' g R r => P cls dd σ θ' H' g R r
  | some (.ok true, μ1), P =>
    intro y θ' H' nv g R' r
    have r : y = true := r
    subst r
    exact ⟨av, θ', sd, μ1, R'.plain, P.rebase g⟩
  | some (.ok false, μ1), P =>
    intro y θ' H' nv g R' r
    have r : y = false := r
    subst r
    exact ⟨av, θ', sd, μ1, R'.plain, P.rebase g⟩
theorem ps_return (he : PE X e (tE X.K X.mg H0 W f)) : PS X (.Return (some e) pos) (tS X.K X.mg H0 W (sRet f)) := by
  refine wkS (L2.ps_ret he) fun E σ H ⟨av, θ, sd, μ, R, P⟩ => ⟨av, θ, sd, μ, R, P.val R fun x μ1 y θ1 H1 nv g R1 r P1 => ?_⟩
  cases h : outD μ1 x with
  | none => rw [h] at P1; exact P1.elim
  | some d => rw [h] at P1; exact P1 y H1 R1.ex (out_ok R1.plain r h)
theorem ps_returnN : PS X (.Return none pos) (tS X.K X.mg H0 W sRetN) := wkS L2.ps_retN fun E σ H ⟨av, θ, sd, μ, R, P⟩ => P .non H R.ex ⟨rfl, rfl, fun _ e => by cases e⟩
theorem ps_brk : PS X (.Break pos) (tS X.K X.mg H0 W sBreak) := wkS L2.ps_break fun E σ H ⟨av, θ, sd, μ, R, P⟩ => P σ θ H Gr.refl R
theorem ps_ct : PS X (.Continue pos) (tS X.K X.mg H0 W sCont) := wkS L2.ps_continue fun E σ H ⟨av, θ, sd, μ, R, P⟩ => P σ θ H Gr.refl R
theorem ps_skip : PS X (.Pass pos) (tS X.K X.mg H0 W sSkip) := wkS L2.ps_pass fun E σ H ⟨av, θ, sd, μ, R, P⟩ => P σ θ H Gr.refl R

/-! ### targets: is, the slots that may turn -/
def PostG (K : PySem.W.Frag) (mg : Mg) (H0 : Hp) (is : List Nat) (av θ : List Addr) (σ : L2.St) (H : Hp) (Q : L2.St → Hp → Prop) (o : Option (Sl × Mem)) : Prop := match o with
  | none => False
  | some (sd', μ') => ∀ σ' θ' H', Gr θ θ' H H' → RS K mg H0 av θ' sd' μ' σ' H' → σ'.length = σ.length → (∀ i, i ∉ is → σ'[i]? = σ[i]?) → Q σ' H'
def tG (K : PySem.W.Frag) (mg : Mg) (H0 : Hp) (is : List Nat) (t : TgD) : TG := fun v σ H Q => ∃ av θ sd μ d, RS K mg H0 av θ sd μ σ H ∧ rep K mg H0 av θ H d v ∧ PostG K mg H0 is av θ σ H Q (t sd μ d)
theorem wkG {tg : Expr} {g g' : TG} (h : PG X tg g) (w : ∀ v σ H Q, g' v σ H Q → g v σ H Q) : PG X tg g' := ⟨fun pins s σ H v u Q I r q => h.run pins s σ H v u Q I r (w v σ H Q q)⟩
theorem pgd_name (i : Nat) {x : Str} (hN : X.N.Nodup) (hi : X.N[i]? = some x := by rfl) (hx : Loc X.env.scope x := by first | exact Or.inl rfl | exact Or.inr rfl) (hf : X.fn x = true ∨ X.env.scope.names.lookup x = some .local := by first | exact .inl rfl | exact .inr rfl) :
    PG X (.Name x pos) (tG X.K X.mg H0 [i] (gD i)) := by
  refine wkG (pg_name hN hi hx hf) fun v σ H Q ⟨av, θ, sd, μ, d, R, r, P⟩ => ?_
  have P : PostG X.K X.mg H0 [i] av θ σ H Q (some (sd.set i (some d), μ)) := by
    cases d <;> first | exact P | exact P.elim
  exact P _ θ H Gr.refl (R.set i r) (List.length_set ..) fun j hj => List.getElem?_set_ne (fun e => hj (by rw [e]; exact List.mem_singleton.mpr rfl))
theorem ps_assign {tg : Expr} {is : List Nat} {t : TgD} (he : PE X e (tE X.K X.mg H0 W f)) (hg : PG X tg (tG X.K X.mg H0 is t)) (hs : swapsWithSole [tg] e pos.line X.env = pure false := by rfl) (hw : swappedStores [tg] e X.env = pure none := by rfl)
    (h1 : (assignEach [tg] X.env).map (·.2) = [assign tg X.env] := by rfl) : PS X (.Assign [tg] e pos) (tS X.K X.mg H0 W (sAsg f t)) := by
  refine wkS (ps_asg he hg hs hw h1) fun E σ H ⟨av, θ, sd, μ, R, P⟩ => ⟨av, θ, sd, μ, R, P.val R fun x μ1 y θ1 H1 nv g R1 r P1 => ?_⟩
  refine ⟨av, θ1, sd, μ1, x, R1.plain, r.1, ?_⟩
  cases h : t sd μ1 x with
  | none => rw [h] at P1; exact P1.elim
  | some z => rw [h] at P1; exact fun σ' θ' H' g R' _ _ => P1 σ' θ' H' g R'
/-! tuple targets -/
/-- the parts of what is unpacked -/
def partsD (μ : Mem) (d : D) : Option (List D) := match d with
  | .tup ds => some ds
  | _ => none
abbrev TgsD := Sl → Mem → List D → Option (Sl × Mem)
def gNilD : TgsD := fun sd μ ds => match ds with
  | [] => some (sd, μ)
  | _ => none
def gConsD (t : TgD) (u : TgsD) : TgsD := fun sd μ ds => match ds with
  | d :: r => (t sd μ d).bind fun z => u z.1 z.2 r
  | [] => none
def gTupD (u : TgsD) : TgD := fun sd μ d => match d with
  | .tup ds => u sd μ ds
  | _ => none
def tGs (K : PySem.W.Frag) (mg : Mg) (H0 : Hp) (is : List Nat) (t : TgsD) : TGs := fun vs σ H Q => ∃ av θ sd μ ds, RS K mg H0 av θ sd μ σ H ∧ repL K mg H0 av θ H ds vs ∧ PostG K mg H0 is av θ σ H Q (t sd μ ds)
theorem wkGs {tgs : List Expr} {g g' : TGs} (h : PGs X tgs g) (w : ∀ v σ H Q, g' v σ H Q → g v σ H Q) : PGs X tgs g' := ⟨fun pins s σ H v u Q I r q => h.run pins s σ H v u Q I r (w v σ H Q q)⟩
theorem pgd_nil : PGs X [] (tGs X.K X.mg H0 [] gNilD) := by
  refine wkGs pgs_nil fun v σ H Q ⟨av, θ, sd, μ, ds, R, r, P⟩ => ?_
  cases ds with
  | nil => exact ⟨r, P σ θ H Gr.refl R rfl fun _ _ => rfl⟩
  | cons d ds => exact P.elim
theorem PostG.more {is js : List Nat} {Q : L2.St → Hp → Prop} {o : Option (Sl × Mem)} (h : ∀ i ∈ is, i ∈ js) (P : PostG X.K X.mg H0 js av θ σ H Q o) : PostG X.K X.mg H0 is av θ σ H Q o := by
  match o, P with
  | some (sd', μ'), P => exact fun σ' θ' H' g R hl hi => P σ' θ' H' g R hl fun i n => hi i fun q => n (h i q)
theorem pgd_cons {tgs : List Expr} {tg : Expr} {is js : List Nat} {t : TgD} {u : TgsD} (h1 : PG X tg (tG X.K X.mg H0 is t)) (h2 : PGs X tgs (tGs X.K X.mg H0 js u))
    (hs : (assignEach (tg :: tgs) X.env).map (·.2) = assign tg X.env :: (assignEach tgs X.env).map (·.2) := by rfl) : PGs X (tg :: tgs) (tGs X.K X.mg H0 (is ++ js) (gConsD t u)) := by
  refine wkGs (pgs_cons h1 h2 hs) fun vs σ H Q ⟨av, θ, sd, μ, ds, R, r, P⟩ => ?_
  cases ds with
  | nil => exact P.elim
  | cons d ds =>
    obtain ⟨x, rr, e, rx, rt⟩ := r
    refine ⟨x, rr, e, av, θ, sd, μ, d, R, rx, ?_⟩
    have P : PostG X.K X.mg H0 (is ++ js) av θ σ H Q ((t sd μ d).bind fun z => u z.1 z.2 ds) := P
    cases h : t sd μ d with
    | none => rw [h] at P; exact P.elim
    | some z =>
      rw [h] at P
      intro σ' θ' H' g R' hl hi
      refine ⟨av, θ', z.1, z.2, ds, R', repL.gr g _ _ rt, ?_⟩
      have P : PostG X.K X.mg H0 (is ++ js) av θ σ H Q (u z.1 z.2 ds) := P
      match h2 : u z.1 z.2 ds, P with
      | some (sd2, μ2), P =>
        exact fun σ2 θ2 H2 g2 R2 hl2 hi2 => P σ2 θ2 H2 (g.trans g2) R2 (hl2.trans hl) fun i n => (hi2 i fun q => n (List.mem_append_right _ q)).trans (hi i fun q => n (List.mem_append_left _ q))
theorem pgd_tup {tgs : List Expr} {k : Nat} {is : List Nat} {u : TgsD} (n : Nat) (hc : X.calm = true) (h : PGs X tgs (tGs X.K X.mg H0 is u)) (hu : ∀ sd μ ds, ds.length ≠ n → u sd μ ds = none) (hn : (assignEach tgs X.env).length = n := by rfl) (hst : (assignEach tgs X.env).findIdx? (·.1) = none := by rfl) :
    PG X (.Tuple tgs k pos) (tG X.K X.mg H0 is (gTupD u)) := by
  refine wkG (pg_tup hc h hn hst) fun v σ H Q ⟨av, θ, sd, μ, d, R, r, P⟩ => ?_
  cases d with
  | tup ds =>
    obtain ⟨a, xs, e, ht, rl⟩ := r
    have P : PostG X.K X.mg H0 is av θ σ H Q (u sd μ ds) := P
    have hlen : ds.length = n := by
      by_cases q : ds.length = n
      · exact q
      · rw [hu sd μ ds q] at P; exact P.elim
    exact ⟨a, xs, e, ht.sq, by rw [repL.length rl]; exact hlen, av, θ, sd, μ, ds, R, rl, P⟩
  | _ => exact P.elim
theorem gNilD_len : ∀ (sd : Sl) (μ : Mem) (ds : List D), ds.length ≠ 0 → gNilD sd μ ds = none := fun sd μ ds h => by
  cases ds with
  | nil => exact absurd rfl h
  | cons d ds => rfl
theorem gConsD_len {t : TgD} {u : TgsD} {n : Nat} (h : ∀ sd μ ds, ds.length ≠ n → u sd μ ds = none) : ∀ (sd : Sl) (μ : Mem) (ds : List D), ds.length ≠ n + 1 → gConsD t u sd μ ds = none := fun sd μ ds hn => by
  cases ds with
  | nil => rfl
  | cons d ds =>
    unfold gConsD
    simp only
    cases t sd μ d with
    | none => rfl
    | some z => exact h _ _ _ fun q => hn (by rw [List.length_cons, q])

/-! ### changing objects -/
theorem RS.setO {av θ : List Addr} {sd : Sl} {μ : Mem} {σ : L2.St} {H : Hp} {K : PySem.W.Frag} {mg : Mg} {n : Nat} {a : Addr} {o : HO} {mo : MO} (R : RS K mg H0 av θ sd μ σ H) (hn : θ[n]? = some a) (h' : repO K mg H0 av θ (upd H a o) mo a) :
    Gr θ θ H (upd H a o) ∧ RS K mg H0 av θ sd (μ.set n mo) σ (upd H a o) := by
  have ha : a ∈ θ := List.mem_of_getElem? hn
  have g : Gr θ θ H (upd H a o) := ⟨List.prefix_refl _, fun b h m => absurd h m, fun b u m e => by rw [upd_ne (fun z => m (by rw [z]; exact ha))]; exact e⟩
  refine ⟨g, R.ex.mut (R.fr a ha), R.fr, R.nd, by rw [List.length_set]; exact R.len, fun k m b h1 h2 => ?_, fun b q => ?_, (R.sls g)⟩
  · by_cases q : k = n
    · subst q
      rw [hn] at h2
      obtain rfl : a = b := Option.some.inj h2
      have hk : k < μ.length := by rw [← R.len]; exact (List.getElem?_eq_some_iff.mp hn).1
      rw [List.getElem?_set_self hk] at h1
      obtain rfl : mo = m := Option.some.inj h1
      exact h'
    · rw [List.getElem?_set_ne (Ne.symm q)] at h1
      refine (R.mem k m b h1 h2).gr g fun u e => ?_
      have ne : b ≠ a := fun z => q (by
        subst z
        obtain ⟨i1, e1⟩ := List.getElem?_eq_some_iff.mp hn
        obtain ⟨i2, e2⟩ := List.getElem?_eq_some_iff.mp h2
        exact (List.getElem_inj R.nd).mp (e2.trans e1.symm))
      rw [upd_ne ne]; exact e
  · obtain ⟨m, u, e, mu⟩ := R.avs b q
    exact ⟨m, u, by rw [upd_ne (fun z => m (by rw [z]; exact ha))]; exact e, mu⟩
/-- a method that changes its object: the value, what is behind -/
def AsksM (X : Cx) (H0 : Hp) (av θ : List Addr) (sd : Sl) (σ : L2.St) (H : Hp) (d : D) (μ' : Mem) (Q : VK) : Prop :=
  ∀ v H' nv, Gr θ θ H H' → RS X.K X.mg H0 (nv ++ av) θ sd μ' σ H' → relD X.K X.mg H0 av θ H H' nv d v → Q v H'
def MuD (X : Cx) (id : String) (g : Mem → D → List D → Option (D × Mem)) : Prop := ∀ H0 : Hp, ∃ r : V → List V → Hp → VK → Prop, MtR X id r ∧
  ∀ (av θ : List Addr) (sd : Sl) (μ : Mem) (σ : L2.St) (H : Hp) (dx : D) (x : V) (ds : List D) (xs : List V) (d : D) (μ' : Mem) (Q : VK), RS X.K X.mg H0 av θ sd μ σ H → rep X.K X.mg H0 av θ H dx x → repL X.K X.mg H0 av θ H ds xs → g μ dx ds = some (d, μ') →
    AsksM X H0 av θ sd σ H d μ' Q → r x xs H Q
/-- xs is a list: what tyV asks -/
def isLst (μ : Mem) : D → Option (List D)
  | .lst ds => some ds
  | .fr ds => some ds
  | .new ds => some ds
  | .ref n => match μ[n]? with
    | some (.lst ds) => some ds
    | _ => none
  | _ => none
/-- a list's method that changes it -/
def eMu (g : Mem → D → List D → Option (D × Mem)) (f : EE) (a : EA) : EE := fun sd μ => bE (f sd μ) fun x μ1 => (isLst μ1 x).bind fun _ => bE (a sd μ1) fun ds μ2 => (g μ2 x ds).map fun z => (.ok z.1, z.2)
theorem lst_at {d : D} {v : V} {ds : List D} (R : RS X.K X.mg H0 av θ sd μ σ H) (r : rep X.K X.mg H0 av θ H d v) (h : isLst μ d = some ds) : ∃ a xs, v = .ref a ∧ H a = some (.lst xs) ∧ repL X.K X.mg H0 av θ H ds xs := by
  cases d with
  | lst es => cases h; obtain ⟨a, xs, e, t, r⟩ := r; exact ⟨a, xs, e, R.ex _ _ t, r⟩
  | fr es => cases h; obtain ⟨a, xs, e, _, _, _, t, r⟩ := r; exact ⟨a, xs, e, t, r⟩
  | new es => cases h; obtain ⟨a, xs, e, _, _, _, t, r⟩ := r; exact ⟨a, xs, e, t, r⟩
  | ref n =>
    obtain ⟨a, e, hn⟩ := r
    have h : (match μ[n]? with
      | some (.lst ds) => some ds
      | _ => none) = some ds := h
    cases hm : μ[n]? with
    | none => rw [hm] at h; cases h
    | some mo =>
      rw [hm] at h
      cases mo with
      | lst es => cases h; obtain ⟨xs, t, r⟩ := R.mem n _ a hm hn; exact ⟨a, xs, e, t, r⟩
      | ins C fs => cases h
  | _ => cases h
theorem lst_ty {d : D} {v : V} {ds : List D} (R : RS X.K X.mg H0 av θ sd μ σ H) (r : rep X.K X.mg H0 av θ H d v) (h : isLst μ d = some ds) : tyV X.K "list" v H := by
  obtain ⟨a, xs, rfl, t, _⟩ := lst_at R r h
  exact .inl ⟨rfl, xs, .inl (.inl t)⟩
theorem askM {o : Option (D × Mem)} {Q : VK} (P : Post X.K X.mg H0 W (relD X.K X.mg H0) av θ sd σ H Q (o.map fun z => (Except.ok z.1, z.2))) : ∃ d μ', o = some (d, μ') ∧ AsksM X H0 av θ sd σ H d μ' Q := by
  cases o with
  | none => exact P.elim
  | some z => exact ⟨z.1, z.2, rfl, fun v H' nv g R r => P v θ H' nv g R r⟩
/-- o.m(e, ..), o.m() of a list that changes -/
theorem pd_mu {o : Expr} {name : Str} {id : String} {apos cpos : Pos} {g : Mem → D → List D → Option (D × Mem)} {ga : EA} (slot : Slot "list" name id) (hty : typeOf (.builtin id) = pure (.type "method_descriptor")) (hm : MuD X id g)
    (ho : PE X o (tE X.K X.mg H0 W f)) (ha : PA X (e :: es) (tA X.K X.mg H0 W ga))
    (hbase : attributeBase o name X.env (eval o X.env) = eval o X.env := by rfl)
    (hfew : ((backTo cpos (starEach (e :: es) X.env)).all (fun x => !x.1) && (backToKw cpos (keywordEach [] X.env)).all (fun x => x.1.isSome)
      && decide ((e :: es).length + ([] : List Keyword).length + (if ([] : List Keyword).isEmpty then 0 else 1) < 30)) = true := by rfl)
    (hline : (apos.endLine == cpos.line) = true := by rfl) (hs : starEach (e :: es) X.env = (false, eval e X.env) :: starEach es X.env := by rfl) (hplain : (backTo cpos (starEach es X.env)).any (·.1) = false := by rfl) :
    PE X (.Call (.Attribute o name apos) (e :: es) [] cpos) (tE X.K X.mg H0 W (eMu g f ga)) := by
  obtain ⟨r, hr, k⟩ := hm H0
  refine wkE (pe_bm PySem.F.plainAttrs_list slot hty hr ho ha hbase hfew hline hs hplain) fun σ H Q ⟨av, θ, sd, μ, R, P⟩ => ⟨av, θ, sd, μ, R, P.bind antiD fun x μ1 v θ1 H1 nv g1 R1 r1 P1 => ?_⟩
  cases hx : isLst μ1 x with
  | none => rw [hx] at P1; exact P1.elim
  | some es =>
    rw [hx] at P1
    refine ⟨lst_ty R1.plain r1.1 hx, av, θ1, sd, μ1, R1.plain, ?_⟩
    have P1 : Post X.K X.mg H0 W (relD X.K X.mg H0) av θ1 sd σ H1 Q (bE (ga sd μ1) fun ds μ2 => (g μ2 x ds).map fun z => (.ok z.1, z.2)) := P1
    refine P1.bind antiD fun ds μ2 vs θ2 H2 nw g2 R2 r2 P2 => ?_
    obtain ⟨d, μ3, hd, q⟩ := askM P2
    exact k av θ2 sd μ2 σ H2 x v ds vs d μ3 Q R2.plain (repG g2 r1.1) r2 hd q
theorem pd_mu0 {o : Expr} {name : Str} {id : String} {apos cpos : Pos} {g : Mem → D → List D → Option (D × Mem)} (slot : Slot "list" name id) (hty : typeOf (.builtin id) = pure (.type "method_descriptor")) (hm : MuD X id g)
    (ho : PE X o (tE X.K X.mg H0 W f)) (hbase : attributeBase o name X.env (eval o X.env) = eval o X.env := by rfl) (hline : (apos.endLine == cpos.line) = true := by rfl) :
    PE X (.Call (.Attribute o name apos) [] [] cpos) (tE X.K X.mg H0 W (eMu g f eNil)) := by
  obtain ⟨r, hr, k⟩ := hm H0
  refine wkE (pe_bm0 PySem.F.plainAttrs_list slot hty hr ho hbase hline) fun σ H Q ⟨av, θ, sd, μ, R, P⟩ => ⟨av, θ, sd, μ, R, P.bind antiD fun x μ1 v θ1 H1 nv g1 R1 r1 P1 => ?_⟩
  cases hx : isLst μ1 x with
  | none => rw [hx] at P1; exact P1.elim
  | some es =>
    rw [hx] at P1
    have P1 : Post X.K X.mg H0 W (relD X.K X.mg H0) av θ1 sd σ H1 Q ((g μ1 x []).map fun z => (.ok z.1, z.2)) := P1
    obtain ⟨d, μ3, hd, q⟩ := askM P1
    exact ⟨lst_ty R1.plain r1.1 hx, k av θ1 sd μ1 σ H1 x v [] [] d μ3 Q R1.plain r1.1 rfl hd q⟩
/-- xs.append(d) -/
def muAppend (μ : Mem) (x : D) (ds : List D) : Option (D × Mem) := match x, ds with
  | .ref n, [d] => match d with
    | .new _ => none
    | d => match μ[n]? with
      | some (.lst es) => if es.length < sizeLine then some (.non, μ.set n (.lst (es ++ [d]))) else none
      | _ => none
  | _, _ => none
theorem repL.snoc {K : PySem.W.Frag} {mg : Mg} {d : D} {v : V} (rd : rep K mg H0 av θ H d v) : ∀ {ds : List D} {xs : List V}, repL K mg H0 av θ H ds xs → repL K mg H0 av θ H (ds ++ [d]) (xs ++ [v])
  | [], xs, h => by
    have h : xs = [] := h
    subst h
    exact ⟨v, [], rfl, rd, rfl⟩
  | e :: ds, _, ⟨x, r, q, h, t⟩ => by
    subst q
    exact ⟨x, r ++ [v], rfl, h, repL.snoc rd t⟩
theorem mu_append : MuD X "list.append" muAppend := fun H0 => by
  refine ⟨_, mt_append, fun av θ sd μ σ H dx x ds xs d μ' Q R rx rl hg q => ?_⟩
  cases dx with
  | ref n =>
    obtain ⟨a, rfl, hn⟩ := rx
    match ds, rl with
    | [y], ⟨v, rr, e1, ry, e2⟩ =>
      have e2 : rr = [] := e2
      subst e2
      subst e1
      have hg : (match μ[n]? with
        | some (.lst es) => if es.length < sizeLine then some (D.non, μ.set n (.lst (es ++ [y]))) else none
        | _ => none) = some (d, μ') := by cases y <;> first | exact hg | cases hg
      cases hm : μ[n]? with
      | none => rw [hm] at hg; cases hg
      | some mo =>
        rw [hm] at hg
        cases mo with
        | ins C fs => cases hg
        | lst es =>
          have hg : (if es.length < sizeLine then some (D.non, μ.set n (MO.lst (es ++ [y]))) else none) = some (d, μ') := hg
          by_cases z : es.length < sizeLine
          · rw [if_pos z] at hg
            cases hg
            obtain ⟨ys, t, rs⟩ := R.mem n _ a hm hn
            refine ⟨a, ys, v, rfl, rfl, t, by rw [repL.length rs]; exact z, ?_⟩
            have ha : a ∈ θ := List.mem_of_getElem? hn
            have g0 : Gr θ θ H (upd H a (.lst (ys ++ [v]))) := ⟨List.prefix_refl _, fun b h m => absurd h m, fun b u m e => by rw [upd_ne (fun z => m (by rw [z]; exact ha))]; exact e⟩
            obtain ⟨g, R'⟩ := R.setO hn (mo := .lst (es ++ [y])) (o := .lst (ys ++ [v])) ⟨_, upd_same, repL.gr g0 _ _ (repL.snoc ry rs)⟩
            exact q .non _ [] g R' ⟨rfl, fun _ e => by cases e⟩
          · rw [if_neg z] at hg; cases hg
    | [], _ => cases hg
    | _ :: _ :: _, _ => cases hg
  | _ => cases hg
end
end DL

/-! DL, part e: loops, comprehensions, calls, defs. -/
namespace DL
open PySem PySem.Spec PyProof.Rows L2

/-! ### what is walked: the items, and what has to stand as it stood -/
abbrev IE := Sl → Mem → R3 (List D × (Mem → Prop))
open Classical in
noncomputable def loopF (chk : Mem → Prop) (t : TgD) (b : SS) : List D → SS
  | [], sd, μ => some (.nx, sd, μ)
  | d :: ds, sd, μ => match t sd μ d with
    | none => none
    | some (sd1, μ1) => match b sd1 μ1 with
      | some (.nx, sd2, μ2) => if chk μ2 then loopF chk t b ds sd2 μ2 else none
      | some (.ct, sd2, μ2) => if chk μ2 then loopF chk t b ds sd2 μ2 else none
      | some (.brk, sd2, μ2) => some (.nx, sd2, μ2)
      | r => r
noncomputable def sFor (it : IE) (t : TgD) (b : SS) : SS := fun sd μ => match it sd μ with
  | none => none
  | some (.error e, μ1) => some (.exc e, sd, μ1)
  | some (.ok (ds, chk), μ1) => loopF chk t b ds sd μ1
/-- the walked thing yields these items -/
def ItOk (K : PySem.W.Frag) (mg : Mg) (H0 : Hp) (av : List Addr) (J : It) (ds : List D) (chk : Mem → Prop) (θ : List Addr) (H : Hp) : Prop :=
  ∀ (i : Nat) (bv θ1 : List Addr) (sd1 : Sl) (μ1 : Mem) (σ1 : L2.St) (H1 : Hp), Gr θ θ1 H H1 → (∀ b ∈ bv, b ∈ av ∨ H b = none) → RS K mg H0 bv θ1 sd1 μ1 σ1 H1 → chk μ1 →
    (∀ d, ds[i]? = some d → J.go i H1 ∧ ∀ x H2, J.yld i H1 x H2 → Exh H1 H2 ∧ rep K mg H0 bv θ1 H2 d x) ∧ (ds.length ≤ i → J.stop i H1)
def PostI (K : PySem.W.Frag) (mg : Mg) (H0 : Hp) (W : WX) (av θ : List Addr) (sd : Sl) (σ : L2.St) (H : Hp) (R : It → Hp → Prop) (o : R3 (List D × (Mem → Prop))) : Prop := match o with
  | none => False
  | some (.error e, μ') => ∀ cls dd θ' H', Gr θ θ' H H' → RS K mg H0 av θ' sd μ' σ H' → repX K mg H0 av θ' H' e cls dd → W cls dd σ H'
  | some (.ok (ds, chk), μ') => ∀ J θ' H', Gr θ θ' H H' → RS K mg H0 av θ' sd μ' σ H' → chk μ' → ItOk K mg H0 av J ds chk θ' H' → R J H'
def tI (K : PySem.W.Frag) (mg : Mg) (H0 : Hp) (W : WX) (f : IE) : TI := fun σ H R => ∃ av θ sd μ, RS K mg H0 av θ sd μ σ H ∧ PostI K mg H0 W av θ sd σ H R (f sd μ)

section
variable {H0 : Hp} {W : WX} {X : Cx} {a b c e : Expr} {es : List Expr} {st : Stmt} {sts body : List Stmt} {pos : Pos} {f : EE} {fs gs : SS} {t : ET} {av θ : List Addr} {sd : Sl} {μ : Mem} {σ : L2.St} {H : Hp}
theorem wkI {tg iter : Expr} {w w' : TI} (h : PI X tg iter w) (k : ∀ σ H R, w' σ H R → w σ H R) : PI X tg iter w' := ⟨fun pins s σ H R I q => h.run pins s σ H R I (k σ H R q)⟩
theorem drop_get {α : Type} {l : List α} {i : Nat} (h : i < l.length) : l.drop i = l[i] :: l.drop (i + 1) := List.drop_eq_getElem_cons h
theorem ps_loop {tg iter : Expr} {fi : IE} {is : List Nat} {g : TgD} (hp : PassesOwn (model X.prog X.w) X.A X.env X.xe) (hc : X.calm = true) (hi : PI X tg iter (tI X.K X.mg H0 W fi)) (hg : PG X tg (tG X.K X.mg H0 is g)) (hb : PSs X body (tS X.K X.mg H0 W fs))
    (hs : ∀ x, foldedSetIterable iter X.env x = pure x := by intro _; rfl) : PS X (.For tg iter body [] pos) (tS X.K X.mg H0 W (sFor fi g fs)) := by
  refine wkS (L2.ps_for hp hc hi hg hb hs) fun E σ H ⟨av, θ, sd, μ, R, P⟩ => ⟨av, θ, sd, μ, R, ?_⟩
  unfold sFor at P
  match h : fi sd μ, P with
  | none, P => exact P
  | some (.error x, μ1), P => exact fun cls dd θ' H' g' R' r => P cls dd σ θ' H' g' R' r
  | some (.ok (ds, chk), μ1), P =>
    intro J θ' H' g' R' hk hJ
    have P : PostS X.K X.mg H0 W av θ' H' E (loopF chk g fs ds sd μ1) := PostS.rebase P g'
    refine ⟨fun i m σi Hi => m = ds.length - i ∧ i ≤ ds.length ∧ ∃ θi sdi μi, Gr θ' θi H' Hi ∧ RS X.K X.mg H0 av θi sdi μi σi Hi ∧ chk μi ∧ PostS X.K X.mg H0 W av θi Hi E (loopF chk g fs (ds.drop i) sdi μi),
      ⟨ds.length, by simp, Nat.zero_le _, θ', sd, μ1, Gr.refl, R', hk, by rw [List.drop_zero]; exact P⟩, ?_⟩
    rintro i m σi Hi ⟨rfl, hle, θi, sdi, μi, gi, Ri, hki, Pi⟩
    obtain ⟨hgo, hst⟩ := hJ i av θi sdi μi σi Hi gi (fun _ h => .inl h) Ri hki
    by_cases hlt : i < ds.length
    · obtain ⟨go, yl⟩ := hgo ds[i] (List.getElem?_eq_getElem hlt)
      rw [drop_get hlt] at Pi
      refine .inr ⟨go, fun σ2 H2 => ∃ θ2 sd2 μ2, Gr θ' θ2 H' H2 ∧ RS X.K X.mg H0 av θ2 sd2 μ2 σ2 H2 ∧ chk μ2 ∧ PostS X.K X.mg H0 W av θ2 H2 E (loopF chk g fs (ds.drop (i + 1)) sd2 μ2), fun σ2 H2 n => ⟨ds.length - (i + 1), by omega, rfl, hlt, n⟩, fun x H2 hy => ?_⟩
      obtain ⟨ex, rx⟩ := yl x H2 hy
      refine ⟨av, θi, sdi, μi, ds[i], Ri.grow ex, rx, ?_⟩
      cases hz : g sdi μi ds[i] with
      | none => unfold loopF at Pi; rw [hz] at Pi; exact Pi.elim
      | some z =>
        obtain ⟨sd1, μ1'⟩ := z
        have g2 : Gr θ' θi H' H2 := gi.trans (Gr.of_ex ex)
        intro σ3 θ3 H3 g3 R3 _ _
        refine ⟨av, θ3, sd1, μ1', R3, ?_⟩
        unfold loopF at Pi
        rw [hz] at Pi
        simp only at Pi
        have gg : Gr θi θ3 Hi H3 := (Gr.of_ex ex).trans g3
        match hb2 : fs sd1 μ1', Pi with
        | none, Pi => exact Pi
        | some (.nx, sd4, μ4), Pi =>
          simp only at Pi
          by_cases hc4 : chk μ4
          · rw [if_pos hc4] at Pi
            exact fun σ5 θ5 H5 g5 R5 => ⟨θ5, sd4, μ4, g2.trans (g3.trans g5), R5, hc4, PostS.rebase Pi (gg.trans g5)⟩
          · rw [if_neg hc4] at Pi; exact Pi.elim
        | some (.ct, sd4, μ4), Pi =>
          simp only at Pi
          by_cases hc4 : chk μ4
          · rw [if_pos hc4] at Pi
            exact fun σ5 θ5 H5 g5 R5 => ⟨θ5, sd4, μ4, g2.trans (g3.trans g5), R5, hc4, PostS.rebase Pi (gg.trans g5)⟩
          · rw [if_neg hc4] at Pi; exact Pi.elim
        | some (.brk, sd4, μ4), Pi => exact PostS.rebase Pi gg
        | some (.ret d, sd4, μ4), Pi => exact Pi
        | some (.exc x, sd4, μ4), Pi => exact PostS.rebase Pi gg
    · have : i = ds.length := by omega
      subst this
      rw [List.drop_length] at Pi
      exact .inl ⟨hst (Nat.le_refl _), Pi σi θi Hi Gr.refl Ri⟩

/-! ### list comprehensions -/
def wipeD (sd : Sl) : List Nat → Sl
  | [] => sd
  | v :: vs => (wipeD sd vs).set v none
theorem RS.wipe {K : PySem.W.Frag} {mg : Mg} (R : RS K mg H0 av θ sd μ σ H) : ∀ vs : List Nat, RS K mg H0 av θ (wipeD sd vs) μ (L2.wipe σ vs) H
  | [] => R
  | v :: vs => (R.wipe vs).unset v
theorem wipe_same {σ' : L2.St} : ∀ {vs : List Nat}, σ'.length = σ.length → (∀ i, i ∉ vs → σ'[i]? = σ[i]?) → L2.wipe σ' vs = L2.wipe σ vs := fun {vs} hl h => by
  apply List.ext_getElem?
  intro i
  have look : ∀ (ρ : L2.St) (ws : List Nat), (L2.wipe ρ ws)[i]? = if i ∈ ws then (ρ[i]?).map fun _ => none else ρ[i]? := fun ρ ws => by
    induction ws with
    | nil => simp [L2.wipe]
    | cons w ws ih =>
      unfold L2.wipe
      by_cases e : i = w
      · subst e
        rw [if_pos List.mem_cons_self]
        by_cases hi : i < ρ.length
        · rw [List.getElem?_set_self (by rw [wipe_length]; exact hi), List.getElem?_eq_getElem hi]; rfl
        · rw [List.getElem?_eq_none (by rw [List.length_set, wipe_length]; omega), List.getElem?_eq_none (by omega)]; rfl
      · rw [List.getElem?_set_ne (Ne.symm e), ih]
        by_cases m : i ∈ ws
        · rw [if_pos m, if_pos (List.mem_cons_of_mem _ m)]
        · rw [if_neg m, if_neg (fun q => (List.mem_cons.mp q).elim e m)]
  rw [look, look]
  by_cases m : i ∈ vs
  · rw [if_pos m, if_pos m]
    by_cases hi : i < σ.length
    · rw [List.getElem?_eq_getElem hi, List.getElem?_eq_getElem (by omega)]; rfl
    · rw [List.getElem?_eq_none (by omega), List.getElem?_eq_none (by omega)]
  · rw [if_neg m, if_neg m]; exact h i m
theorem wipe_wipe (vs : List Nat) : L2.wipe (L2.wipe σ vs) vs = L2.wipe σ vs := by
  refine wipe_same (wipe_length _ _) fun i h => ?_
  have : ∀ (ws : List Nat), i ∉ ws → (L2.wipe σ ws)[i]? = σ[i]? := fun ws hw => by
    induction ws with
    | nil => rfl
    | cons w ws ih =>
      unfold L2.wipe
      rw [List.getElem?_set_ne (fun q => hw (by rw [q]; exact List.mem_cons_self)), ih fun q => hw (List.mem_cons_of_mem _ q)]
  exact this vs h
def notNew : D → Bool
  | .new _ => false
  | _ => true
open Classical in
noncomputable def lcF (chk : Mem → Prop) (t : TgD) (q : ET) (f : EE) (sd : Sl) : List D → Mem → R3 (List D)
  | [], μ => some (.ok [], μ)
  | d :: ds, μ => match t sd μ d with
    | none => none
    | some (sd1, μ1) => match q sd1 μ1 with
      | some (.ok true, μ2) => match f sd1 μ2 with
        | some (.ok x, μ3) => if notNew x = true ∧ chk μ3 then bE (lcF chk t q f sd ds μ3) fun xs μ4 => some (.ok (x :: xs), μ4) else none
        | _ => none
      | some (.ok false, μ2) => if chk μ2 then lcF chk t q f sd ds μ2 else none
      | _ => none
theorem lcF_ok {chk : Mem → Prop} {t : TgD} {q : ET} {f : EE} {sd : Sl} : ∀ {ds : List D} {μ : Mem} {e : Exn} {μ' : Mem}, lcF chk t q f sd ds μ ≠ some (.error e, μ') := by
  intro ds
  induction ds with
  | nil => intro μ e μ' h; simp [lcF] at h
  | cons d ds ih =>
    intro μ e μ' h
    unfold lcF at h
    split at h
    · cases h
    · split at h
      · split at h
        · split at h
          · rename_i x μ3 _ _
            cases z : lcF chk t q f sd ds μ3 with
            | none => rw [z] at h; cases h
            | some w =>
              obtain ⟨r, m⟩ := w
              cases r with
              | error e' => exact ih z
              | ok xs => rw [z] at h; cases h
          · cases h
        · cases h
      · split at h
        · exact ih h
        · cases h
      · cases h
noncomputable def eLc (it : IE) (t : TgD) (q : ET) (f : EE) (vs : List Nat) : EE := fun sd μ => match it sd μ with
  | none => none
  | some (.error e, μ1) => some (.error e, μ1)
  | some (.ok (ds, chk), μ1) => if ds.length ≤ sizeLine then bE (lcF chk t q f (wipeD sd vs) ds μ1) fun xs μ2 => some (.ok (.new xs), μ2) else none
def qYes : ET := fun _ μ => some (.ok true, μ)
theorem pts_none : PTs X [] (tT X.K X.mg H0 W qYes) := ⟨fun pins s σ H Q I ⟨av, θ, sd, μ, R, P⟩ => pts_nil.run pins s σ H Q I (P true θ H [] Gr.refl R rfl)⟩
theorem pts_1 {c : Expr} {q : ET} (h : PT X c (tT X.K X.mg H0 W q)) : PTs X [c] (tT X.K X.mg H0 W q) := pts_one h
theorem lc_read {fi : IE} {is vs : List Nat} {g : TgD} {q : ET} {Q : VK} (his : ∀ i ∈ is, i ∈ vs) (hh : tE X.K X.mg H0 W (eLc fi g q f vs) σ H Q) :
    tLc (tI X.K X.mg H0 W fi) (tG X.K X.mg H0 is g) (tT X.K X.mg H0 WF q) (tE X.K X.mg H0 WF f) vs σ H Q := by
  obtain ⟨av, θ, sd, μ, R, P⟩ := hh
  refine ⟨av, θ, sd, μ, R, ?_⟩
  unfold eLc at P
  match h : fi sd μ, P with
  | none, P => exact P
  | some (.error x, μ1), P => exact fun cls dd θ' H' g' R' r => P cls dd θ' H' g' R' r
  | some (.ok (ds, chk), μ1), P =>
    simp only at P
    by_cases hz : ds.length ≤ sizeLine
    case neg => rw [if_neg hz] at P; exact P.elim
    rw [if_pos hz] at P
    intro J θ1 H1 g1 R1 hk hJ D hD
    cases hl : lcF chk g q f (wipeD sd vs) ds μ1 with
    | none => rw [hl] at P; exact P.elim
    | some w =>
      obtain ⟨rs, μf⟩ := w
      cases rs with
      | error e' => exact absurd hl lcF_ok
      | ok xs =>
        rw [hl] at P
        have e1 : Exh H1 (upd H1 D (.lst [])) := Exh.new hD
        have h0 : H0 D = none := R1.h0 hD
        refine ⟨fun i m Hi => m = ds.length - i ∧ i ≤ ds.length ∧ ∃ θi μi accd accv, Gr θ1 θi H1 Hi ∧ RS X.K X.mg H0 (D :: av) θi (wipeD sd vs) μi (L2.wipe σ vs) Hi ∧ chk μi ∧ Hi D = some (.lst accv) ∧ repL X.K X.mg H0 (D :: av) θi Hi accd accv ∧ accd.length ≤ i ∧
            ∃ rest, lcF chk g q f (wipeD sd vs) (ds.drop i) μi = some (.ok rest, μf) ∧ xs = accd ++ rest,
          ⟨ds.length, by simp, Nat.zero_le _, θ1, μ1, [], [], Gr.of_ex e1, (R1.push e1 hD upd_same trivial).wipe vs, hk, upd_same, rfl, Nat.zero_le _, xs, by rw [List.drop_zero]; exact hl, rfl⟩, ?_⟩
        rintro i m Hi ⟨rfl, hle, θi, μi, accd, accv, gi, Ri, hki, hDi, ra, hal, rest, hrest, exs⟩
        obtain ⟨hgo, hst⟩ := hJ i (D :: av) θi _ μi _ Hi gi (fun b h => (List.mem_cons.mp h).elim (fun e => .inr (by rw [e]; exact hD)) .inl) Ri hki
        by_cases hlt : i < ds.length
        · obtain ⟨go, yl⟩ := hgo ds[i] (List.getElem?_eq_getElem hlt)
          rw [drop_get hlt] at hrest
          refine .inr ⟨go, fun H2 => ∃ θ2 μ2 accd accv, Gr θ1 θ2 H1 H2 ∧ RS X.K X.mg H0 (D :: av) θ2 (wipeD sd vs) μ2 (L2.wipe σ vs) H2 ∧ chk μ2 ∧ H2 D = some (.lst accv) ∧ repL X.K X.mg H0 (D :: av) θ2 H2 accd accv ∧ accd.length ≤ i + 1 ∧
            ∃ rest, lcF chk g q f (wipeD sd vs) (ds.drop (i + 1)) μ2 = some (.ok rest, μf) ∧ xs = accd ++ rest, fun H2 n => ⟨ds.length - (i + 1), by omega, rfl, hlt, n⟩, fun x H2 hy => ?_⟩
          obtain ⟨ex, rx⟩ := yl x H2 hy
          have DDi : D ∈ D :: av := List.mem_cons_self
          -- the target
          unfold lcF at hrest
          cases hgz : g (wipeD sd vs) μi ds[i] with
          | none => rw [hgz] at hrest; cases hrest
          | some z =>
            obtain ⟨sd1, μ1'⟩ := z
            rw [hgz] at hrest
            simp only at hrest
            refine ⟨D :: av, θi, _, μi, ds[i], Ri.grow ex, rx, ?_⟩
            rw [hgz]
            intro σ3 θ3 H3 g3 R3 hl3 ho3
            have hw3 : L2.wipe σ3 vs = L2.wipe σ vs := (wipe_same hl3 fun j hj => ho3 j fun q => hj (his j q)).trans (wipe_wipe vs)
            refine ⟨hw3, D :: av, θ3, sd1, μ1', R3, ?_⟩
            have gi3 : Gr θi θ3 Hi H3 := (Gr.of_ex ex).trans g3
            -- the test
            cases hq : q sd1 μ1' with
            | none => rw [hq] at hrest; cases hrest
            | some w =>
              obtain ⟨rb, μ2⟩ := w
              cases rb with
              | error e' => rw [hq] at hrest; cases hrest
              | ok b =>
                rw [hq] at hrest
                intro y θ4 H4 nv g4 R4 ry
                have ry : y = b := ry
                subst ry
                have R4 := R4.plain
                have gi4 : Gr θi θ4 Hi H4 := gi3.trans g4
                have hD4 : H4 D = some (.lst accv) := gi4.keep D _ (Ri.avs D DDi).1 hDi
                have back : ∀ {θ5 H5 μ5}, Gr θi θ5 Hi H5 → RS X.K X.mg H0 (D :: av) θ5 sd1 μ5 σ3 H5 → RS X.K X.mg H0 (D :: av) θ5 (wipeD sd vs) μ5 (L2.wipe σ vs) H5 := fun g5 R5 => R5.slots (Ri.sls g5)
                cases y with
                | false =>
                  simp only at hrest
                  by_cases hc : chk μ2
                  · rw [if_pos hc] at hrest
                    exact ⟨θ4, μ2, accd, accv, gi.trans gi4, back gi4 R4, hc, hD4, repL.gr gi4 _ _ ra, Nat.le_succ_of_le hal, rest, hrest, exs⟩
                  · rw [if_neg hc] at hrest; cases hrest
                | true =>
                  simp only at hrest
                  refine ⟨D :: av, θ4, sd1, μ2, R4, ?_⟩
                  cases hf : f sd1 μ2 with
                  | none => rw [hf] at hrest; cases hrest
                  | some w =>
                    obtain ⟨rx5, μ5⟩ := w
                    cases rx5 with
                    | error e' => rw [hf] at hrest; cases hrest
                    | ok x5 =>
                      rw [hf] at hrest
                      simp only at hrest
                      by_cases hc : notNew x5 = true ∧ chk μ5
                      case neg => rw [if_neg hc] at hrest; cases hrest
                      rw [if_pos hc] at hrest
                      intro v5 θ5 H5 nv5 g5 R5 r5
                      have R5 := R5.plain
                      have gi5 : Gr θi θ5 Hi H5 := gi4.trans g5
                      have hD5 : H5 D = some (.lst accv) := gi5.keep D _ (Ri.avs D DDi).1 hDi
                      refine ⟨accv, hD5, ?_, ?_⟩
                      · rw [repL.length ra]; omega
                      · cases hr : lcF chk g q f (wipeD sd vs) (ds.drop (i + 1)) μ5 with
                        | none => rw [hr] at hrest; cases hrest
                        | some w6 =>
                          obtain ⟨rs6, μ6⟩ := w6
                          cases rs6 with
                          | error e' => exact absurd hr lcF_ok
                          | ok xs6 =>
                            rw [hr] at hrest
                            cases hrest
                            have gu : Gr θ1 θ5 H1 (upd H5 D (.lst (accv ++ [v5]))) := ⟨(gi.trans gi5).pre, (gi.trans gi5).nw, fun a o n hh => by
                              rw [upd_ne (fun z => by rw [z, hD] at hh; cases hh)]; exact (gi.trans gi5).keep a o n hh⟩
                            have R6 := (back gi5 R5).updAv (o := .lst (accv ++ [v5])) DDi h0 trivial
                            have ra6 : repL X.K X.mg H0 (D :: av) θ5 (upd H5 D (.lst (accv ++ [v5]))) (accd ++ [x5]) (accv ++ [v5]) :=
                              repL.tr (fun _ _ h => h) (goes_upd DDi) _ _ (repL.snoc r5.1 (repL.gr gi5 _ _ ra))
                            exact ⟨θ5, μ5, accd ++ [x5], accv ++ [v5], gu, R6, hc.2, upd_same, ra6, by rw [List.length_append]; simp; exact hal, xs6, hr, by rw [exs]; simp⟩
        · have : i = ds.length := by omega
          subst this
          rw [List.drop_length] at hrest
          simp only [lcF] at hrest
          cases hrest
          refine .inl ⟨hst (Nat.le_refl _), ?_⟩
          have ge : Gr θ θi H Hi := g1.trans gi
          have hDH : H D = none := R1.back g1 hD
          have Rf : RS X.K X.mg H0 (D :: av) θi sd μf σ Hi := Ri.slots ⟨R.sl.1, fun j d h => by
            obtain ⟨v, hv, r⟩ := R.sl.2 j d h
            exact ⟨v, hv, rep.push ge hDH d v r⟩⟩
          rw [List.append_nil] at exs
          subst exs
          exact P (.ref D) θi Hi [D] ge Rf ⟨⟨D, accv, rfl, (Ri.avs D List.mem_cons_self).1, R1.notav hD, h0, hDi, repL.few (fun b h => List.mem_cons_of_mem _ h) _ _ ra⟩, fun ds' e => by
            cases e
            exact ⟨D, accv, rfl, rfl, hDH, hDi, ra⟩⟩
theorem pd_lc {elt tg iter : Expr} {ifs : List Expr} {scope : Scope} {own : List (Str × Nat)} {fi : IE} {is : List Nat} {g : TgD} {q : ET} (hc : X.calm = true) (hN : X.N.Nodup) (hi : PI X tg iter (tI X.K X.mg H0 W fi)) (ok : BlkOk X.N X.env.scope scope own)
    (hg : ∀ (s : Shared) (H : Hp) (C : Addr) (cl : List (Str × Addr)) (fp : List Addr), PG (X.blk s H scope (compEnvC scope cl C X.env) fp) tg (tG X.K X.mg H0 is g)) (his : ∀ i ∈ is, i ∈ own.map (·.2))
    (ht : ∀ (s : Shared) (H : Hp) (C : Addr) (cl : List (Str × Addr)) (fp : List Addr), PTs (X.blk s H scope (compEnvC scope cl C X.env) fp) ifs (tT X.K X.mg H0 WF q))
    (he : ∀ (s : Shared) (H : Hp) (C : Addr) (cl : List (Str × Addr)) (fp : List Addr), PE (X.blk s H scope (compEnvC scope cl C X.env) fp) elt (tE X.K X.mg H0 WF f)) (hs : ∀ x, foldedSetIterable iter X.env x = pure x := by intro _; rfl) :
    PE X (.ListComp elt [⟨tg, iter, ifs, 0⟩] scope pos) (tE X.K X.mg H0 W (eLc fi g q f (own.map (·.2)))) :=
  wkE (pe_lc hc hN hi ok hg ht he hs) fun σ H Q h => lc_read his h
end
end DL

/-! DL, part f: defs and their calls. -/
namespace DL
open PySem PySem.Spec PyProof.Rows L2

/-! ### arguments -/
mutual
def okA : D → Bool
  | .non | .bl _ | .int _ | .str _ | .glob _ | .ty _ => true
  | .tup ds | .lst ds | .lck ds => okAL ds
  | .obj _ fs | .bor _ fs => okAF fs
  | _ => false
def okAL : List D → Bool
  | [] => true
  | d :: ds => okA d && okAL ds
def okAF : List (Str × D) → Bool
  | [] => true
  | (_, d) :: ds => okA d && okAF ds
end
def argD (μ : Mem) (d : D) : Option D := match d with
  | .new ds => if okAL ds then some (.lst ds) else none
  | .fr ds => if okAL ds then some (.lst ds) else none
  | .ref n => match μ[n]? with
    | some (.lst ds) => if okAL ds then some (.lst ds) else none
    | some (.ins C fs) => if okAF fs then some (.bor C fs) else none
    | none => none
  | d => if okA d then some d else none
def argsD (μ : Mem) : List D → Option (List D)
  | [] => some []
  | d :: ds => (argD μ d).bind fun x => (argsD μ ds).map fun xs => x :: xs

section
variable {K : PySem.W.Frag} {mg : Mg} {H0 H H1 H' : Hp} {av θ : List Addr} {sd : Sl} {μ : Mem} {σ : L2.St}
theorem TupAt.arg {a : Addr} {xs : List V} (h : TupAt K av θ H a xs) : TupAt K (θ ++ av) [] H a xs := by
  rcases h with ⟨n, m, h⟩ | h
  · exact .inl ⟨by simp, fun q => (List.mem_append.mp q).elim n m, h⟩
  · exact .inr h
theorem SqL.exh {a : Addr} {xs : List V} (e : Exh H0 H) (h : SqL K H0 a xs) : SqL K H a xs := by
  rcases h with h | h
  · exact .inl (e.rd h)
  · exact .inr h
mutual
theorem rep.arg (e : Exh H0 H) : ∀ (d : D) (v : V), okA d = true → rep K mg H0 av θ H d v → rep K mg H (θ ++ av) [] H d v
  | .non, _, _, h => h
  | .bl _, _, _, h => h
  | .int _, _, _, h => h
  | .str _, _, _, h => h
  | .glob _, _, _, h => h
  | .ty _, _, _, h => h
  | .tup ds, _, p, ⟨a, xs, q, t, r⟩ => ⟨a, xs, q, t.arg, repL.arg e ds xs (by simpa [okA] using p) r⟩
  | .lst ds, _, p, ⟨a, xs, q, t, r⟩ => ⟨a, xs, q, e _ _ t, repL.arg e ds xs (by simpa [okA] using p) r⟩
  | .lck ds, _, p, ⟨a, xs, q, t, r⟩ => ⟨a, xs, q, SqL.exh e t, repL.arg e ds xs (by simpa [okA] using p) r⟩
  | .obj _ fs, _, p, ⟨a, c, dx, vs, q, n, m, hc, t, r⟩ => ⟨a, c, dx, vs, q, by simp, fun z => (List.mem_append.mp z).elim n m, hc, t, repF.arg e fs vs (by simpa [okA] using p) r⟩
  | .bor _ fs, _, p, ⟨a, c, dx, vs, q, hc, t, r⟩ => ⟨a, c, dx, vs, q, hc, e _ _ t, repF.arg e fs vs (by simpa [okA] using p) r⟩
  | .fr _, _, p, _ => by simp [okA] at p
  | .new _, _, p, _ => by simp [okA] at p
  | .ref _, _, p, _ => by simp [okA] at p
  | .exh _, _, p, _ => by simp [okA] at p
theorem repL.arg (e : Exh H0 H) : ∀ (ds : List D) (xs : List V), okAL ds = true → repL K mg H0 av θ H ds xs → repL K mg H (θ ++ av) [] H ds xs
  | [], _, _, h => h
  | d :: ds, _, p, ⟨x, r, q, h, t⟩ => by
    simp only [okAL, Bool.and_eq_true] at p
    exact ⟨x, r, q, rep.arg e d x p.1 h, repL.arg e ds r p.2 t⟩
theorem repF.arg (e : Exh H0 H) : ∀ (ds : List (Str × D)) (xs : List (Str × V)), okAF ds = true → repF K mg H0 av θ H ds xs → repF K mg H (θ ++ av) [] H ds xs
  | [], _, _, h => h
  | (_, d) :: ds, _, p, ⟨x, r, q, h, t⟩ => by
    simp only [okAF, Bool.and_eq_true] at p
    exact ⟨x, r, q, rep.arg e d x p.1 h, repF.arg e ds r p.2 t⟩
end
theorem arg_ok {d d' : D} {v : V} (R : RS K mg H0 av θ sd μ σ H) (r : rep K mg H0 av θ H d v) (h : argD μ d = some d') : rep K mg H (θ ++ av) [] H d' v := by
  unfold argD at h
  split at h
  · split at h
    · rename_i p
      cases h
      obtain ⟨a, xs, e, n, m, f, t, r⟩ := r
      exact ⟨a, xs, e, t, repL.arg R.ex _ _ p r⟩
    · cases h
  · split at h
    · rename_i p
      cases h
      obtain ⟨a, xs, e, n, m, f, t, r⟩ := r
      exact ⟨a, xs, e, t, repL.arg R.ex _ _ p r⟩
    · cases h
  · obtain ⟨a, rfl, hn⟩ := r
    split at h
    · rename_i hm
      split at h
      · rename_i p
        cases h
        obtain ⟨xs, t, r⟩ := R.mem _ _ a hm hn
        exact ⟨a, xs, rfl, t, repL.arg R.ex _ _ p r⟩
      · cases h
    · rename_i hm
      split at h
      · rename_i p
        cases h
        obtain ⟨c, dx, vs, hc, t, r⟩ := R.mem _ _ a hm hn
        exact ⟨a, c, dx, vs, rfl, hc, t, repF.arg R.ex _ _ p r⟩
      · cases h
    · cases h
  · split at h
    · rename_i p
      cases h
      exact rep.arg R.ex _ _ p r
    · cases h
theorem args_ok (R : RS K mg H0 av θ sd μ σ H) : ∀ {ds ds' : List D} {vs : List V}, repL K mg H0 av θ H ds vs → argsD μ ds = some ds' → repL K mg H (θ ++ av) [] H ds' vs
  | [], _, _, r, h => by cases h; exact r
  | d :: ds, _, _, ⟨x, rr, e, rx, rt⟩, h => by
    unfold argsD at h
    cases h1 : argD μ d with
    | none => rw [h1] at h; cases h
    | some d1 =>
      rw [h1] at h
      cases h2 : argsD μ ds with
      | none => rw [h2] at h; cases h
      | some ds1 =>
        rw [h2] at h
        cases h
        exact ⟨x, rr, e, arg_ok R rx h1, args_ok R rt h2⟩
theorem argsD_length {μ : Mem} : ∀ {ds ds' : List D}, argsD μ ds = some ds' → ds'.length = ds.length
  | [], _, h => by cases h; rfl
  | d :: ds, _, h => by
    unfold argsD at h
    cases h1 : argD μ d with
    | none => rw [h1] at h; cases h
    | some d1 =>
      rw [h1] at h
      cases h2 : argsD μ ds with
      | none => rw [h2] at h; cases h
      | some ds1 =>
        rw [h2] at h
        cases h
        rw [List.length_cons, List.length_cons, argsD_length h2]

/-! ### what comes back -/
theorem TupAt.back {a : Addr} {xs : List V} (h : TupAt K (θ ++ av) [] H a xs) : TupAt K av θ H a xs := by
  rcases h with ⟨n, m, h⟩ | h
  · exact .inl ⟨fun q => m (List.mem_append_left _ q), fun q => m (List.mem_append_right _ q), h⟩
  · exact .inr h
mutual
theorem rep.ret (f : ∀ a, H1 a = none → H0 a = none) : ∀ (d : D) (v : V), plain d = true → rep K mg H1 (θ ++ av) [] H d v → rep K mg H0 av θ H d v
  | .non, _, _, h => h
  | .bl _, _, _, h => h
  | .int _, _, _, h => h
  | .str _, _, _, h => h
  | .glob _, _, _, h => h
  | .ty _, _, _, h => h
  | .tup ds, _, p, ⟨a, xs, q, t, r⟩ => ⟨a, xs, q, t.back, repL.ret f ds xs (by simpa [plain] using p) r⟩
  | .fr ds, _, p, ⟨a, xs, q, n, m, z, t, r⟩ => ⟨a, xs, q, fun z => m (List.mem_append_left _ z), fun z => m (List.mem_append_right _ z), f _ z, t, repL.ret f ds xs (by simpa [plain] using p) r⟩
  | .obj _ fs, _, p, ⟨a, c, dx, vs, q, n, m, hc, t, r⟩ => ⟨a, c, dx, vs, q, fun z => m (List.mem_append_left _ z), fun z => m (List.mem_append_right _ z), hc, t, repF.ret f fs vs (by simpa [plain] using p) r⟩
  | .lst _, _, p, _ => by simp [plain] at p
  | .lck _, _, p, _ => by simp [plain] at p
  | .new _, _, p, _ => by simp [plain] at p
  | .ref _, _, p, _ => by simp [plain] at p
  | .bor _ _, _, p, _ => by simp [plain] at p
  | .exh _, _, p, _ => by simp [plain] at p
theorem repL.ret (f : ∀ a, H1 a = none → H0 a = none) : ∀ (ds : List D) (xs : List V), plainL ds = true → repL K mg H1 (θ ++ av) [] H ds xs → repL K mg H0 av θ H ds xs
  | [], _, _, h => h
  | d :: ds, _, p, ⟨x, r, q, h, t⟩ => by
    simp only [plainL, Bool.and_eq_true] at p
    exact ⟨x, r, q, rep.ret f d x p.1 h, repL.ret f ds r p.2 t⟩
theorem repF.ret (f : ∀ a, H1 a = none → H0 a = none) : ∀ (ds : List (Str × D)) (xs : List (Str × V)), plainF ds = true → repF K mg H1 (θ ++ av) [] H ds xs → repF K mg H0 av θ H ds xs
  | [], _, _, h => h
  | (_, d) :: ds, _, p, ⟨x, r, q, h, t⟩ => by
    simp only [plainF, Bool.and_eq_true] at p
    exact ⟨x, r, q, rep.ret f d x p.1 h, repF.ret f ds r p.2 t⟩
end
/-- a call's answer, in the caller's hands -/
theorem ret_ok {d : D} {v : V} (R : RS K mg H0 av θ sd μ σ H1) (e : Exh H1 H) (r : repR K mg H1 (θ ++ av) H d v) : ∃ nv, RS K mg H0 (nv ++ av) θ sd μ σ H ∧ relD K mg H0 av θ H1 H nv d v := by
  obtain ⟨ok, r, rn⟩ := r
  have back : ∀ a, H1 a = none → H0 a = none := fun a h => R.ex.back h
  by_cases hn : ∃ ds, d = .new ds
  · obtain ⟨ds, rfl⟩ := hn
    obtain ⟨p, xs, rfl, hp, rl⟩ := rn ds rfl
    obtain ⟨a, _, ea, n, m, f, t, _⟩ := r
    cases ea
    have rl2 : repL K mg H0 (p :: av) θ H ds xs := repL.ret (θ := θ) (av := p :: av) back _ _ ok (repL.few (av := p :: (θ ++ av)) (fun b hb => by
      rcases List.mem_append.mp hb with q | q
      · exact List.mem_cons_of_mem _ (List.mem_append_left _ q)
      · rcases List.mem_cons.mp q with q | q
        · rw [q]; exact List.mem_cons_self
        · exact List.mem_cons_of_mem _ (List.mem_append_right _ q)) _ _ rl)
    exact ⟨[p], R.push e f hp trivial, ⟨p, xs, rfl, fun z => m (List.mem_append_left _ z), fun z => m (List.mem_append_right _ z), back _ f, hp, repL.few (fun b hb => List.mem_cons_of_mem _ hb) _ _ rl2⟩,
      fun _ e => by cases e; exact ⟨p, xs, rfl, rfl, f, hp, rl2⟩⟩
  · have hp : plain d = true := by
      cases d <;> first | exact ok | exact absurd ⟨_, rfl⟩ hn
    exact ⟨[], R.grow e, rep.ret back _ _ hp r, fun ds e => absurd ⟨ds, e⟩ hn⟩
theorem retX_ok {e : Exn} {cls : Value} {dd : Option Addr} (R : RS K mg H0 av θ sd μ σ H1) (r : repX K mg H1 (θ ++ av) [] H e cls dd) : repX K mg H0 av θ H e cls dd := by
  rcases r with ⟨c, d, vs, h1, h2, h3, n, m, h4, p, r⟩ | r
  · exact .inl ⟨c, d, vs, h1, h2, h3, fun z => m (List.mem_append_left _ z), fun z => m (List.mem_append_right _ z), h4, p, repF.ret (fun a h => R.ex.back h) _ _ p r⟩
  · exact .inr r
end

/-! ### promises -/
abbrev Mir := List D → Option (Except Exn D)
def spD (K : PySem.W.Frag) (mg : Mg) (np : Nat) (m : Mir) : Sp := fun vs H Q E => ∃ av ds, (∀ a ∈ av, ∃ o, H a = some o ∧ Mut (some o)) ∧ repL K mg H av [] H ds vs ∧ ds.length = np ∧ match m ds with
  | none => False
  | some (.ok d) => ∀ v H', Exh H H' → repR K mg H av H' d v → Q v H'
  | some (.error e) => ∀ cls dd H', Exh H H' → repX K mg H av [] H' e cls dd → E cls dd H'
/-- a def by its body: n slots -/
def runF (n : Nat) (body : SS) : Mir := fun ds => match body (ds.map some ++ List.replicate (n - ds.length) none) [] with
  | some (.ret d, _, _) => some (.ok d)
  | some (.nx, _, _) => some (.ok .non)
  | some (.exc e, _, _) => some (.error e)
  | _ => none
/-- a def that stands, with its promise -/
def FnD (P : Program) (w : World) (K : PySem.W.Frag) (mg : Mg) (base : Heap) (x : Str) (k np : Nat) (m : Mir) : Prop :=
  ∃ f fd ps, mg x = some (.ref f) ∧ PySem.W.keepIn K (.ref f) = true ∧ Binds K fd ps [] ∧ ps.length = np ∧ FnOk P w K mg base (L2.CX P w) k f fd ps (spD K mg np m)
theorem FnD.mono {P : Program} {w : World} {K : PySem.W.Frag} {mg : Mg} {base : Heap} {x : Str} {k j np : Nat} {m : Mir} (h : FnD P w K mg base x k np m) (q : k ≤ j) : FnD P w K mg base x j np m :=
  let ⟨f, fd, ps, a, b, c, d, e⟩ := h
  ⟨f, fd, ps, a, b, c, d, e.mono q⟩
section
variable {P : Program} {w : World} {K : PySem.W.Frag} {mg : Mg} {base : Heap}
/-- THE RULE for a def -/
theorem def_ok {x qual : Str} {st : Stmt} {f : Addr} {fd : FuncData} {N ps : List Str} {k : Nat} {body : SS} (F : Fun K x qual st f fd) (S : FnScope N ps (defScope st))
    (hbody : ∀ (cdv : Value) (A : Around) (outer : List Env) (s : Shared) (H : Hp) (E : XK), Room k (A.deeper (envOfC qual (defScope st) s.heap.objs.size f cdv)) →
      PSs (cxOf (L2.CX P w) P w K mg base N qual (defScope st) f cdv A outer s H E) (defBody st) (tS K mg H (fun cls d _ H' => E cls d H') body)) :
    FnOk P w K mg base (L2.CX P w) (k + 1) f fd ps (spD K mg ps.length (runF N.length body)) := by
  refine F.okX S (fun vs H Q E h => ?_) (fun cdv A outer s H vs Q E hr h => ⟨_, hbody cdv A outer s H E hr, ?_⟩)
  · obtain ⟨av, ds, _, r, hl, _⟩ := h
    rw [repL.length r]; exact hl
  · obtain ⟨av, ds, hav, r, hl, h⟩ := h
    have hps : ps.length ≤ N.length := by
      have := congrArg List.length S.pre
      rw [List.length_take] at this
      omega
    have hlv := repL.length r
    refine ⟨av, [], ds.map some ++ List.replicate (N.length - ds.length) none, [], ⟨Exh.refl H, by simp, List.nodup_nil, rfl, fun n mo a h => by simp at h, fun a q => ⟨by simp, hav a q⟩, ?_, fun i d hd => ?_⟩, ?_⟩
    · unfold L2.start
      simp only [List.length_append, List.length_map, List.length_replicate]
      omega
    · have hi : i < ds.length := by
        by_cases q : i < ds.length
        · exact q
        · rw [List.getElem?_append_right (by simpa using q), List.getElem?_replicate] at hd
          split at hd <;> cases hd
      rw [List.getElem?_append_left (by simpa using hi), List.getElem?_map] at hd
      have key : ∀ {ds : List D} {vs : List V} {i : Nat} {d : D}, repL K mg H av [] H ds vs → ds[i]? = some d → ∃ v, vs[i]? = some v ∧ rep K mg H av [] H d v := by
        intro ds
        induction ds with
        | nil => intro vs i d _ h; simp at h
        | cons d0 ds ih =>
          intro vs i d hr h
          obtain ⟨x, rr, rfl, rx, rt⟩ := hr
          cases i with
          | zero =>
            simp at h
            subst h
            exact ⟨x, rfl, rx⟩
          | succ i =>
            obtain ⟨v, a, b⟩ := ih rt (by simpa using h)
            exact ⟨v, by simpa using a, b⟩
      cases hq : ds[i]? with
      | none => rw [hq] at hd; cases hd
      | some d1 =>
        rw [hq] at hd
        cases hd
        obtain ⟨v, a, b⟩ := key r hq
        refine ⟨v, ?_, b⟩
        unfold L2.start
        rw [List.getElem?_append_left (by simp; omega), List.getElem?_map, a]
        rfl
    · unfold runF at h
      match hb : body (ds.map some ++ List.replicate (N.length - ds.length) none) [], h with
      | none, h => exact h.elim
      | some (.nx, sd', μ'), h => exact fun σ' θ' H' g R => h .non H' R.ex ⟨rfl, rfl, fun _ e => by cases e⟩
      | some (.ret d, sd', μ'), h => exact h
      | some (.brk, sd', μ'), h => exact h.elim
      | some (.ct, sd', μ'), h => exact h.elim
      | some (.exc e, sd', μ'), h =>
        intro cls dd σ' θ' H' g R r
        refine h cls dd H' R.ex ?_
        rcases r with ⟨c, d, vs, h1, h2, h3, n, m, h4, p, r⟩ | r
        · exact .inl ⟨c, d, vs, h1, h2, h3, by simp, m, h4, p, repF.out _ _ p r⟩
        · exact .inr r
end

/-! ### a call -/
def eCall (m : Mir) (np : Nat) (a : EA) : EE := fun sd μ => bE (a sd μ) fun ds μ1 => (argsD μ1 ds).bind fun ds' => if ds'.length = np then match m ds' with
    | none => none
    | some (.ok d) => some (.ok d, μ1)
    | some (.error e) => some (.error e, μ1)
  else none
theorem pd_call {X : Cx} {W : WX} {H0 : Hp} {x : Str} {k j np : Nat} {m : Mir} {e : Expr} {es : List Expr} {ga : EA} {p pos : Pos} (F : FnD X.prog X.w X.K X.mg X.base x k np m) (tk : Takes X W) (hr : Room j X.A) (ha : PA X (e :: es) (tA X.K X.mg H0 W ga)) (hk : k ≤ j := by decide) (hg : Gl X x := by rfl)
    (hdb : (x == ("__debug__" : Str)) = false := by decide) (he : starEach (e :: es) X.env = (false, eval e X.env) :: starEach es X.env := by rfl) (hpl : (backTo pos (starEach es X.env)).any (·.1) = false := by rfl) :
    PE X (.Call (.Name x p) (e :: es) [] pos) (tE X.K X.mg H0 W (eCall m np ga)) := by
  obtain ⟨f, fd, ps, hm, hkp, hb, hps, F⟩ := F
  refine wkE (pe_callS F (hr.mono hk) hg hm hkp hb (fun σ => passAt tk σ) ha hdb he hpl) fun σ H Q ⟨av, θ, sd, μ, R, P⟩ => ⟨av, θ, sd, μ, R, P.bind antiD fun ds μ1 vs θ1 H1 nv g1 R1 r1 P1 => ?_⟩
  have R1 := R1.plain
  cases h1 : argsD μ1 ds with
  | none => rw [h1] at P1; exact P1.elim
  | some ds' =>
    rw [h1] at P1
    have P1 : Post X.K X.mg H0 W (relD X.K X.mg H0) av θ1 sd σ H1 Q (if ds'.length = np then match m ds' with
      | none => none
      | some (.ok d) => some (.ok d, μ1)
      | some (.error e) => some (.error e, μ1)
      else none) := P1
    by_cases hn : ds'.length = np
    case neg => rw [if_neg hn] at P1; exact P1.elim
    rw [if_pos hn] at P1
    refine ⟨θ1 ++ av, ds', fun a h => ?_, args_ok R1 r1 h1, hn, ?_⟩
    · rcases List.mem_append.mp h with h | h
      · exact R1.has h
      · exact (R1.avs a h).2
    · cases hm : m ds' with
      | none => rw [hm] at P1; exact P1.elim
      | some r =>
        rw [hm] at P1
        cases r with
        | ok d =>
          intro v H' ex rr
          obtain ⟨nv, R2, r2⟩ := ret_ok R1 ex rr
          exact P1 v θ1 H' nv (Gr.of_ex ex) R2 r2
        | error e =>
          intro cls dd H' ex rr
          exact P1 cls dd θ1 H' (Gr.of_ex ex) (R1.grow ex) (retX_ok R1 rr)
end DL

/-! DL, part g: operators, built-ins, iterators. -/
namespace DL
open PySem PySem.Spec PyProof.Rows L2

section
variable {X : Cx}
/-! ### whole numbers -/
open Classical in
noncomputable def when_ {α : Type} (p : Prop) (x : Option α) : Option α := if p then x else none
theorem when_some {α : Type} {p : Prop} {x : Option α} {d : α} (h : when_ p x = some d) : p ∧ x = some d := by
  unfold when_ at h
  split at h
  · rename_i c
    exact ⟨c, h⟩
  · cases h
theorem when_t {α : Type} {p : Prop} {x : Option α} (h : p) : when_ p x = x := if_pos h
noncomputable def gI (C : Int → Int → Prop) (g : Int → Int → D) : Mem → D → D → Option D := fun _ x y => match x, y with
  | .int i, .int j => when_ (C i j) (some (g i j))
  | _, _ => none
theorem od_I {f : Value → Value → Sem Value} {C : Int → Int → Prop} {gv : Int → Int → V} {gd : Int → Int → D} (h : OpR X f (rI C gv)) (hr : ∀ i j (H0 : Hp) av θ (H : Hp), rep X.K X.mg H0 av θ H (gd i j) (gv i j))
    (hn : ∀ i j ds, gd i j ≠ .new ds) : OpD X f (gI C gd) := fun H0 => ⟨_, h, fun av θ sd μ σ H dx dy x y d Q R rx ry hg q => by
  cases dx with
  | int i =>
    cases dy with
    | int j =>
      obtain ⟨c, hg⟩ := when_some (show when_ _ _ = some d from hg)
      cases hg
      exact ⟨i, j, rx, ry, c, q.same R (hr i j H0 av θ H) (hn i j)⟩
    | _ => cases hg
  | _ => cases hg⟩
def gI0 (g : Int → Int → D) : Mem → D → D → Option D := fun _ x y => match x, y with
  | .int i, .int j => some (g i j)
  | _, _ => none
theorem od_I0 {f : Value → Value → Sem Value} {gv : Int → Int → V} {gd : Int → Int → D} (h : OpR X f (rI0 gv)) (hr : ∀ i j (H0 : Hp) av θ (H : Hp), rep X.K X.mg H0 av θ H (gd i j) (gv i j))
    (hn : ∀ i j ds, gd i j ≠ .new ds) : OpD X f (gI0 gd) := fun H0 => ⟨_, h, fun av θ sd μ σ H dx dy x y d Q R rx ry hg q => by
  cases dx with
  | int i =>
    cases dy with
    | int j =>
      cases hg
      exact ⟨i, j, rx, ry, q.same R (hr i j H0 av θ H) (hn i j)⟩
    | _ => cases hg
  | _ => cases hg⟩
def gAddI := gI0 fun i j => .int (i + j)
def gSubI := gI0 fun i j => .int (i - j)
instance (i j : Int) : Decidable (CMulW i j) := by unfold CMulW; infer_instance
instance (i j : Int) : Decidable (CDivW i j) := by unfold CDivW; infer_instance
instance (i j : Int) : Decidable (CPow i j) := by unfold CPow; infer_instance
noncomputable def gMulI := gI CMulW fun i j => .int (i * j)
noncomputable def gDivI := gI CDivW fun i j => .int (i / j)
noncomputable def gModI := gI (fun _ j => 0 < j) fun i j => .int (i % j)
noncomputable def gPowI := gI CPow fun i j => .int (i ^ j.toNat)
theorem od_addI : OpD X (binaryOp .Add) gAddI := od_I0 op_add (fun _ _ _ _ _ _ => rfl) (fun _ _ _ e => by cases e)
theorem od_subI : OpD X (binaryOp .Sub) gSubI := od_I0 op_sub (fun _ _ _ _ _ _ => rfl) (fun _ _ _ e => by cases e)
theorem od_mulI : OpD X (binaryOp .Mult) gMulI := od_I op_mulW (fun _ _ _ _ _ _ => rfl) (fun _ _ _ e => by cases e)
theorem od_divI : OpD X (binaryOp .FloorDiv) gDivI := od_I op_fdivW (fun _ _ _ _ _ _ => rfl) (fun _ _ _ e => by cases e)
theorem od_modI : OpD X (binaryOp .Mod) gModI := od_I op_mod (fun _ _ _ _ _ _ => rfl) (fun _ _ _ e => by cases e)
theorem od_powI : OpD X (binaryOp .Pow) gPowI := od_I op_pow (fun _ _ _ _ _ _ => rfl) (fun _ _ _ e => by cases e)
theorem od_iaddI : OpD X (inplaceOp .Add) gAddI := od_I0 iop_add (fun _ _ _ _ _ _ => rfl) (fun _ _ _ e => by cases e)
theorem od_isubI : OpD X (inplaceOp .Sub) gSubI := od_I0 iop_sub (fun _ _ _ _ _ _ => rfl) (fun _ _ _ e => by cases e)
def gLtI := gI0 fun i j => .bl (decide (i < j))
def gLeI := gI0 fun i j => .bl (decide (i ≤ j))
def gGtI := gI0 fun i j => .bl (decide (j < i))
def gGeI := gI0 fun i j => .bl (decide (j ≤ i))
theorem od_ltI : OpD X (compareOp .Lt) gLtI := od_I0 op_lt (fun _ _ _ _ _ _ => rfl) (fun _ _ _ e => by cases e)
theorem od_leI : OpD X (compareOp .LtE) gLeI := od_I0 op_le (fun _ _ _ _ _ _ => rfl) (fun _ _ _ e => by cases e)
theorem od_gtI : OpD X (compareOp .Gt) gGtI := od_I0 op_gt (fun _ _ _ _ _ _ => rfl) (fun _ _ _ e => by cases e)
theorem od_geI : OpD X (compareOp .GtE) gGeI := od_I0 op_ge (fun _ _ _ _ _ _ => rfl) (fun _ _ _ e => by cases e)
def gNeg : Mem → D → Option D := fun _ x => match x with
  | .int i => some (.int (-i))
  | _ => none
theorem ud_neg : UnD X (unaryOp .USub) gNeg := fun H0 => ⟨_, un_neg, fun av θ sd μ σ H dx x d Q R rx hg q => by
  cases dx with
  | int i => cases hg; exact ⟨i, rx, q.same R rfl (fun _ e => by cases e)⟩
  | _ => cases hg⟩

/-! ### None -/
def isNonD : D → Bool
  | .non => true
  | _ => false
theorem isNon_ok {K : PySem.W.Frag} {mg : Mg} {H0 : Hp} {av θ : List Addr} {H : Hp} {d : D} {v : V} (r : rep K mg H0 av θ H d v) : decide (v = .non) = isNonD d := by
  cases d with
  | non => exact decide_eq_true r
  | bl b => have r : v = .bl b := r; subst r; rfl
  | int i => have r : v = .int i := r; subst r; rfl
  | str s => have r : v = .str s := r; subst r; rfl
  | ty n => have r : v = .ty n := r; subst r; rfl
  | exh a => have r : v = .ref a := r; subst r; rfl
  | tup ds => obtain ⟨a, xs, rfl, _⟩ := r; rfl
  | lst ds => obtain ⟨a, xs, rfl, _⟩ := r; rfl
  | lck ds => obtain ⟨a, xs, rfl, _⟩ := r; rfl
  | fr ds => obtain ⟨a, xs, rfl, _⟩ := r; rfl
  | new ds => obtain ⟨a, xs, rfl, _⟩ := r; rfl
  | ref n => obtain ⟨a, rfl, _⟩ := r; rfl
  | glob x => obtain ⟨a, rfl, _⟩ := r; rfl
  | obj C fs => obtain ⟨a, c, dx, vs, rfl, _⟩ := r; rfl
  | bor C fs => obtain ⟨a, c, dx, vs, rfl, _⟩ := r; rfl
def gIsN (neg : Bool) : Mem → D → D → Option D := fun _ x y => match y with
  | .non => some (.bl (if neg then !isNonD x else isNonD x))
  | _ => none
theorem od_isN : OpD X (compareOp .Is) (gIsN false) := fun H0 => ⟨_, op_isN, fun av θ sd μ σ H dx dy x y d Q R rx ry hg q => by
  cases dy with
  | non => cases hg; exact ⟨ry, by rw [isNon_ok rx]; exact q.same R rfl (fun _ e => by cases e)⟩
  | _ => cases hg⟩
theorem od_notN : OpD X (compareOp .IsNot) (gIsN true) := fun H0 => ⟨_, op_notN, fun av θ sd μ σ H dx dy x y d Q R rx ry hg q => by
  cases dy with
  | non => cases hg; exact ⟨ry, by rw [isNon_ok rx]; exact q.same R rfl (fun _ e => by cases e)⟩
  | _ => cases hg⟩

/-! ### data: ==, in -/
mutual
def toP : D → Option PyData
  | .non => some .none
  | .bl b => some (.bool b)
  | .int i => some (.int i)
  | .str s => some (.str s)
  | .tup ds => (toPs ds).map .tuple
  | .lst ds | .lck ds | .fr ds | .new ds => (toPs ds).map .list
  | _ => none
def toPs : List D → Option (List PyData)
  | [] => some []
  | d :: ds => (toP d).bind fun p => (toPs ds).map fun ps => p :: ps
end
def toPm (μ : Mem) (d : D) : Option PyData := match d with
  | .ref n => match μ[n]? with
    | some (.lst ds) => (toPs ds).map .list
    | _ => none
  | d => toP d
section
variable {K : PySem.W.Frag} {mg : Mg} {H0 : Hp} {av θ : List Addr} {H : Hp} {sd : Sl} {μ : Mem} {σ : L2.St}
mutual
theorem toP_ok (R : RS K mg H0 av θ sd μ σ H) : ∀ (d : D) (v : V) (p : PyData), rep K mg H0 av θ H d v → toP d = some p → Dp K H v p
  | .non, _, _, r, h => by cases h; cases r; exact .non
  | .bl b, _, _, r, h => by cases h; cases r; exact .bl b
  | .int i, _, _, r, h => by cases h; cases r; exact .int i
  | .str s, _, _, r, h => by cases h; cases r; exact .str s
  | .tup ds, v, p, ⟨a, xs, e, t, r⟩, h => by
    subst e
    simp only [toP] at h
    cases q : toPs ds with
    | none => rw [q] at h; cases h
    | some ps => rw [q] at h; cases h; exact .tup t.sq (toPs_ok R ds xs ps r q)
  | .lst ds, v, p, ⟨a, xs, e, t, r⟩, h => by
    subst e
    simp only [toP] at h
    cases q : toPs ds with
    | none => rw [q] at h; cases h
    | some ps => rw [q] at h; cases h; exact .lst (.inl (.inl (R.ex _ _ t))) (toPs_ok R ds xs ps r q)
  | .lck ds, v, p, ⟨a, xs, e, t, r⟩, h => by
    subst e
    simp only [toP] at h
    cases q : toPs ds with
    | none => rw [q] at h; cases h
    | some ps => rw [q] at h; cases h; exact .lst (SqL.exh R.ex t) (toPs_ok R ds xs ps r q)
  | .fr ds, v, p, ⟨a, xs, e, _, _, _, t, r⟩, h => by
    subst e
    simp only [toP] at h
    cases q : toPs ds with
    | none => rw [q] at h; cases h
    | some ps => rw [q] at h; cases h; exact .lst (.inl (.inl t)) (toPs_ok R ds xs ps r q)
  | .new ds, v, p, ⟨a, xs, e, _, _, _, t, r⟩, h => by
    subst e
    simp only [toP] at h
    cases q : toPs ds with
    | none => rw [q] at h; cases h
    | some ps => rw [q] at h; cases h; exact .lst (.inl (.inl t)) (toPs_ok R ds xs ps r q)
  | .ref _, _, _, _, h => by simp [toP] at h
  | .glob _, _, _, _, h => by simp [toP] at h
  | .ty _, _, _, _, h => by simp [toP] at h
  | .obj _ _, _, _, _, h => by simp [toP] at h
  | .bor _ _, _, _, _, h => by simp [toP] at h
  | .exh _, _, _, _, h => by simp [toP] at h
theorem toPs_ok (R : RS K mg H0 av θ sd μ σ H) : ∀ (ds : List D) (vs : List V) (ps : List PyData), repL K mg H0 av θ H ds vs → toPs ds = some ps → DpAll K H vs ps
  | [], vs, ps, r, h => by
    have r : vs = [] := r
    subst r
    simp only [toPs] at h
    cases h
    exact .nil
  | d :: ds, vs, ps, ⟨x, rr, e, rx, rt⟩, h => by
    subst e
    simp only [toPs] at h
    cases q : toP d with
    | none => rw [q] at h; cases h
    | some p =>
      rw [q] at h
      cases q2 : toPs ds with
      | none => rw [q2] at h; cases h
      | some p2 =>
        rw [q2] at h
        cases h
        exact .cons (toP_ok R d x p rx q) (toPs_ok R ds rr p2 rt q2)
end
theorem toPm_ok (R : RS K mg H0 av θ sd μ σ H) {d : D} {v : V} {p : PyData} (r : rep K mg H0 av θ H d v) (h : toPm μ d = some p) : Dp K H v p := by
  cases d with
  | ref n =>
    obtain ⟨a, e, hn⟩ := r
    subst e
    have h : (match μ[n]? with
      | some (.lst ds) => (toPs ds).map PyData.list
      | _ => none) = some p := h
    cases hm : μ[n]? with
    | none => rw [hm] at h; cases h
    | some mo =>
      rw [hm] at h
      cases mo with
      | ins C fs => cases h
      | lst ds =>
        have h : (toPs ds).map PyData.list = some p := h
        obtain ⟨xs, t, r⟩ := R.mem n _ a hm hn
        cases q : toPs ds with
        | none => rw [q] at h; cases h
        | some ps => rw [q] at h; cases h; exact .lst (.inl (.inl t)) (toPs_ok R ds xs ps r q)
  | _ => exact toP_ok R _ _ _ r h
end
def gEqD (neg : Bool) : Mem → D → D → Option D := fun μ x y => (toPm μ x).bind fun p => (toPm μ y).bind fun q => if (SeqAt.shaped p && SeqAt.shaped q) = true then some (.bl (if neg then !PyData.eqv p q else PyData.eqv p q)) else none
theorem od_eqD (hu : X.A.units + 64 < cLine) : OpD X (compareOp .Eq) (gEqD false) := fun H0 => ⟨_, op_eqD hu, fun av θ sd μ σ H dx dy x y d Q R rx ry hg q => by
  unfold gEqD at hg
  cases h1 : toPm μ dx with
  | none => rw [h1] at hg; cases hg
  | some p =>
    cases h2 : toPm μ dy with
    | none => rw [h1, h2] at hg; cases hg
    | some p' =>
      rw [h1, h2] at hg
      simp only [Option.bind_some] at hg
      split at hg
      · rename_i hs
        cases hg
        rw [Bool.and_eq_true] at hs
        exact ⟨p, p', toPm_ok R rx h1, toPm_ok R ry h2, hs.1, hs.2, q.same R rfl (fun _ e => by cases e)⟩
      · cases hg⟩
theorem od_neD (hu : X.A.units + 64 < cLine) : OpD X (compareOp .NotEq) (gEqD true) := fun H0 => ⟨_, op_neD hu, fun av θ sd μ σ H dx dy x y d Q R rx ry hg q => by
  unfold gEqD at hg
  cases h1 : toPm μ dx with
  | none => rw [h1] at hg; cases hg
  | some p =>
    cases h2 : toPm μ dy with
    | none => rw [h1, h2] at hg; cases hg
    | some p' =>
      rw [h1, h2] at hg
      simp only [Option.bind_some] at hg
      split at hg
      · rename_i hs
        cases hg
        rw [Bool.and_eq_true] at hs
        exact ⟨p, p', toPm_ok R rx h1, toPm_ok R ry h2, hs.1, hs.2, q.same R rfl (fun _ e => by cases e)⟩
      · cases hg⟩
/-- x in a list or a tuple of data -/
def gInD (neg : Bool) : Mem → D → D → Option D := fun μ x y => (toPm μ x).bind fun p => (toPm μ y).bind fun q => match q with
  | .list ds => if (SeqAt.shaped p && SeqAt.shaped (.list ds)) = true then some (.bl (if neg then !(ds.any fun z => PyData.eqv z p) else ds.any fun z => PyData.eqv z p)) else none
  | .tuple ds => if (SeqAt.shaped p && SeqAt.shaped (.tuple ds)) = true then some (.bl (if neg then !(ds.any fun z => PyData.eqv z p) else ds.any fun z => PyData.eqv z p)) else none
  | _ => none
def rInT (K : PySem.W.Frag) (neg : Bool) : R2 := fun x y H Q => ∃ d ds, Dp K H x d ∧ (Dp K H y (.list ds) ∧ SeqAt.shaped (.list ds) = true ∨ Dp K H y (.tuple ds) ∧ SeqAt.shaped (.tuple ds) = true) ∧ SeqAt.shaped d = true ∧
  Q (.bl (if neg then !(ds.any fun z => PyData.eqv z d) else ds.any fun z => PyData.eqv z d)) H
theorem opr_in (hu : X.A.units + 65 < cLine) : OpR X (compareOp .In) (rInT X.K false) := by
  intro pins s σ H x y v u Q I rx ry h
  obtain ⟨d, ds, hd, hds, sd, q⟩ := h
  obtain ⟨as, r1⟩ := Dp.reads I d x v hd rx
  rcases hds with ⟨he, se⟩ | ⟨he, se⟩
  · exact op_inD hu pins s σ H x y v u Q I rx ry ⟨d, ds, hd, he, sd, se, q⟩
  · obtain ⟨bs, r2⟩ := Dp.reads I (.tuple ds) y u he ry
    exact SeqAt.in_tuple_reads r2 r1 (SeqAt.canLay_of_shaped se) (SeqAt.canLay_of_shaped sd) (room_in_shaped sd hu) ⟨.bl _, H, I, rfl, q⟩
theorem opr_notIn (hu : X.A.units + 65 < cLine) : OpR X (compareOp .NotIn) (rInT X.K true) := by
  intro pins s σ H x y v u Q I rx ry h
  obtain ⟨d, ds, hd, hds, sd, q⟩ := h
  obtain ⟨as, r1⟩ := Dp.reads I d x v hd rx
  rcases hds with ⟨he, se⟩ | ⟨he, se⟩
  · exact op_notInD hu pins s σ H x y v u Q I rx ry ⟨d, ds, hd, he, sd, se, q⟩
  · obtain ⟨bs, r2⟩ := Dp.reads I (.tuple ds) y u he ry
    exact SeqAt.notIn_tuple_reads r2 r1 (SeqAt.canLay_of_shaped se) (SeqAt.canLay_of_shaped sd) (room_in_shaped sd hu) ⟨.bl _, H, I, rfl, q⟩
theorem in_ask {H0 : Hp} {neg : Bool} {av θ : List Addr} {sd : Sl} {μ : Mem} {σ : L2.St} {H : Hp} {dx dy : D} {x y : V} {d : D} {Q : VK} (R : RS X.K X.mg H0 av θ sd μ σ H) (rx : rep X.K X.mg H0 av θ H dx x) (ry : rep X.K X.mg H0 av θ H dy y) (hg : gInD neg μ dx dy = some d)
    (q : Asks X H0 av θ sd μ σ H d Q) : rInT X.K neg x y H Q := by
  unfold gInD at hg
  cases h1 : toPm μ dx with
  | none => rw [h1] at hg; cases hg
  | some p =>
    cases h2 : toPm μ dy with
    | none => rw [h1, h2] at hg; cases hg
    | some p' =>
      rw [h1, h2] at hg
      simp only [Option.bind_some] at hg
      split at hg
      · split at hg
        · rename_i hs
          cases hg
          rw [Bool.and_eq_true] at hs
          exact ⟨p, _, toPm_ok R rx h1, .inl ⟨toPm_ok R ry h2, hs.2⟩, hs.1, q.same R rfl (fun _ e => by cases e)⟩
        · cases hg
      · split at hg
        · rename_i hs
          cases hg
          rw [Bool.and_eq_true] at hs
          exact ⟨p, _, toPm_ok R rx h1, .inr ⟨toPm_ok R ry h2, hs.2⟩, hs.1, q.same R rfl (fun _ e => by cases e)⟩
        · cases hg
      · cases hg
theorem od_in (hu : X.A.units + 65 < cLine) : OpD X (compareOp .In) (gInD false) := fun H0 => ⟨_, opr_in hu, fun _ _ _ _ _ _ _ _ _ _ _ _ R rx ry hg q => in_ask R rx ry hg q⟩
theorem od_notIn (hu : X.A.units + 65 < cLine) : OpD X (compareOp .NotIn) (gInD true) := fun H0 => ⟨_, opr_notIn hu, fun _ _ _ _ _ _ _ _ _ _ _ _ R rx ry hg q => in_ask R rx ry hg q⟩
end
end DL

/-! DL, part h: tuple times number; sequences. -/
namespace DL
open PySem PySem.Spec PyProof.Rows L2

/-! ### t * k, k at most 1 -/
theorem tmul_none (l : Addr) (xs : Array Value) (n : Nat) (dd : Option Addr) (sl : Array (Option Value)) (k : Int) (u : Tok) (a0 : (decide (k < -(2 ^ 63)) || decide (k ≥ 2 ^ 63)) = false) (a1 : (xs.isEmpty || k == 1) = false) (a2 : (decide (k ≤ 0) || xs.isEmpty) = true) :
    Meets (Builtin.«tuple.__mul__» ⟨[.ref l, .int k u], []⟩) (fun _ R s => s.heap.get? l = some { cls := .type "tuple", dict := dd, data := .seq xs n, slots := sl } ∧
      R (.ok (.ret (Value.ref s.heap.objs.size))) { s with heap := s.heap.push { cls := Value.type "tuple", data := Data.seq #[] }, toks := s.toks }) :=
  .of_wp fun prog w A R s z => by
    obtain ⟨hp, g, d, tk, os⟩ := s
    obtain ⟨hl, z⟩ := z
    have f1 := AutoSeq1.idx_int
    wp_walk using wpAny_loadPart' hl
    repeat (first
      | (refine wpAny_ite_false (decide_eq_false (by rw [a0]; exact Bool.false_ne_true)) ?_; wp_walk using wpAny_loadPart' hl)
      | (refine wpAny_ite_false (decide_eq_false (by rw [a1]; exact Bool.false_ne_true)) ?_; wp_walk using wpAny_loadPart' hl)
      | (refine wpAny_ite_true (decide_eq_true a2) ?_; wp_walk using wpAny_loadPart' hl))
    exact ⟨_, rfl, z⟩
theorem tmul_one (l : Addr) (xs : Array Value) (n : Nat) (dd : Option Addr) (sl : Array (Option Value)) (k : Int) (u : Tok) (a0 : (decide (k < -(2 ^ 63)) || decide (k ≥ 2 ^ 63)) = false) (a1 : (xs.isEmpty || k == 1) = true) :
    Meets (Builtin.«tuple.__mul__» ⟨[.ref l, .int k u], []⟩) (fun _ R s => s.heap.get? l = some { cls := .type "tuple", dict := dd, data := .seq xs n, slots := sl } ∧ R (.ok (.ret (Value.ref l))) s) :=
  .of_wp fun prog w A R s z => by
    obtain ⟨hp, g, d, tk, os⟩ := s
    obtain ⟨hl, z⟩ := z
    have f1 := AutoSeq1.idx_int
    wp_walk using wpAny_loadPart' hl
    repeat (first
      | (refine wpAny_ite_false (decide_eq_false (by rw [a0]; exact Bool.false_ne_true)) ?_; wp_walk using wpAny_loadPart' hl)
      | (refine wpAny_ite_true (decide_eq_true a1) ?_; wp_walk using wpAny_loadPart' hl))
    exact ⟨_, rfl, z⟩
section
variable {X : Cx}
def rTm (K : PySem.W.Frag) : R2 := fun x y H Q => ∃ l k xs, x = .ref l ∧ y = .int k ∧ SqT K H l xs ∧ (-(2 ^ 63) ≤ k ∧ k < 2 ^ 63) ∧
  ((xs = [] ∨ k = 1) ∧ Q (.ref l) H ∨ (xs ≠ [] ∧ k ≤ 0 ∧ ∀ p, H p = none → Q (.ref p) (upd H p (.tup []))) ∨
    (xs ≠ [] ∧ 2 ≤ k ∧ k ≤ 1000 ∧ xs.length ≤ 1000 ∧ ∀ p, H p = none → Q (.ref p) (upd H p (.tup (List.replicate k.toNat xs).flatten))))
theorem opr_tm : OpR X (binaryOp .Mult) (rTm X.K) := by
  intro pins s σ H x y v u Q I rx ry h
  obtain ⟨l, k, xs, rfl, rfl, hT, hk, h⟩ := h
  have ca : (decide (k < -(2 ^ 63)) || decide (k ≥ 2 ^ 63)) = false := by
    rw [decide_eq_false (by omega), decide_eq_false (by omega)]; rfl
  rcases h with ⟨h1, q⟩ | ⟨hne, h0, q⟩ | ⟨hne, h2, h3, hz, q⟩
  · cases rx
    obtain ⟨t, rfl⟩ := ry
    obtain ⟨ws, r, ⟨⟨cl, dd, da, sl⟩, ho, hc, n, hd⟩, hs⟩ := I.tuple hT
    simp only at hc hd
    subst hc hd
    have cb : (ws.toArray.isEmpty || k == 1) = true := by
      rcases h1 with h1 | h1
      · subst h1; cases r; rfl
      · subst h1; simp
    exact wpAny_binaryOp_repeat_ref (T := "tuple") (U := "int") (by decide) ⟨_, ho, rfl⟩ (fun s1 => typeIs_int s1 k t) noFill_tuple_mul F.fills_int_mul F.slot_int_rmul repeat_tuple F.slot_int_index.lookup
      (call_meets F.slot_int_rmul (typeIs_int s k t) F.entry_int_rmul (F.args_int_rmul_2 _ _) (int_rmul_tuple k t l ws.toArray n dd sl)
        ⟨ho, rfl, ⟨_, ho, rfl⟩, call_meets F.slot_tuple_mul ⟨_, ho, rfl⟩ F.entry_tuple_mul (F.args_tuple_mul_2 _ _) (tmul_one l ws.toArray n dd sl k t ca cb) ⟨ho, ⟨.ref l, H, I, rfl, q⟩⟩⟩)
  · cases rx
    obtain ⟨t, rfl⟩ := ry
    obtain ⟨ws, r, ⟨⟨cl, dd, da, sl⟩, ho, hc, n, hd⟩, hs⟩ := I.tuple hT
    simp only at hc hd
    subst hc hd
    have hi : ws.toArray.isEmpty = false := by
      cases r with
      | nil => exact absurd rfl hne
      | cons _ _ => rfl
    have cb : (ws.toArray.isEmpty || k == 1) = false := by
      rw [hi, Bool.false_or]; exact beq_eq_false_iff_ne.mpr (by omega)
    have cc : (decide (k ≤ 0) || ws.toArray.isEmpty) = true := by
      rw [decide_eq_true h0]; rfl
    refine wpAny_binaryOp_repeat_ref (T := "tuple") (U := "int") (by decide) ⟨_, ho, rfl⟩ (fun s1 => typeIs_int s1 k t) noFill_tuple_mul F.fills_int_mul F.slot_int_rmul repeat_tuple F.slot_int_index.lookup
      (call_meets F.slot_int_rmul (typeIs_int s k t) F.entry_int_rmul (F.args_int_rmul_2 _ _) (int_rmul_tuple k t l ws.toArray n dd sl)
        ⟨ho, rfl, ⟨_, ho, rfl⟩, call_meets F.slot_tuple_mul ⟨_, ho, rfl⟩ F.entry_tuple_mul (F.args_tuple_mul_2 _ _) (tmul_none l ws.toArray n dd sl k t ca cb cc) ⟨ho, ?_⟩⟩)
    refine ⟨.ref s.heap.objs.size, _, I.laid (t' := s.toks) (o := .tup []) (fun b ob z => Heap.get?_push_of_some _ z) (Nat.le_refl _) ?_, rfl, q _ (I.hok.fresh (Nat.le_refl _))⟩
    exact ⟨Nat.zero_le _, [], .nil, IsTup.new _ _⟩
  · exact op_repT pins s σ H _ _ v u Q I rx ry ⟨l, k, xs, rfl, rfl, hT, hne, h2, h3, hz, q⟩
/-- t * k -/
noncomputable def gMulT : Mem → D → D → Option D := fun _ x y => match x, y with
  | .tup ds, .int k => when_ (k ≤ 1000 ∧ ds.length ≤ 1000 ∧ -(2 ^ 63) ≤ k) (some (.tup (List.replicate k.toNat ds).flatten))
  | _, _ => none
theorem repL.app {K : PySem.W.Frag} {mg : Mg} {H0 : Hp} {av θ : List Addr} {H : Hp} : ∀ {ds es : List D} {xs ys : List V}, repL K mg H0 av θ H ds xs → repL K mg H0 av θ H es ys → repL K mg H0 av θ H (ds ++ es) (xs ++ ys)
  | [], es, xs, ys, h, h2 => by
    have h : xs = [] := h
    subst h
    exact h2
  | d :: ds, es, _, ys, ⟨x, r, e, h, t⟩, h2 => by
    subst e
    exact ⟨x, r ++ ys, rfl, h, repL.app t h2⟩
theorem repL.rept {K : PySem.W.Frag} {mg : Mg} {H0 : Hp} {av θ : List Addr} {H : Hp} {ds : List D} {xs : List V} (h : repL K mg H0 av θ H ds xs) : ∀ n : Nat, repL K mg H0 av θ H (List.replicate n ds).flatten (List.replicate n xs).flatten
  | 0 => rfl
  | n + 1 => by
    rw [List.replicate_succ, List.flatten_cons, List.replicate_succ, List.flatten_cons]
    exact repL.app h (repL.rept h n)
theorem repL.nil_iff {K : PySem.W.Frag} {mg : Mg} {H0 : Hp} {av θ : List Addr} {H : Hp} {ds : List D} {xs : List V} (h : repL K mg H0 av θ H ds xs) : xs = [] ↔ ds = [] := by
  have := repL.length h
  constructor
  · intro e; subst e; exact List.eq_nil_of_length_eq_zero this.symm
  · intro e; subst e; exact List.eq_nil_of_length_eq_zero this
theorem rep_nl (ds : List D) : ∀ es, D.tup ds ≠ D.new es := fun _ e => by cases e
theorem od_mulT : OpD X (binaryOp .Mult) gMulT := fun H0 => ⟨_, opr_tm, fun av θ sd μ σ H dx dy x y d Q R rx ry hg q => by
  cases dx with
  | tup ds =>
    cases dy with
    | int k =>
      · obtain ⟨c, hg⟩ := when_some (show when_ _ _ = some d from hg)
        cases hg
        obtain ⟨a, xs, rfl, t, r⟩ := rx
        have hl := repL.length r
        refine ⟨a, k, xs, rfl, ry, t.sq, ⟨c.2.2, by omega⟩, ?_⟩
        by_cases hx : xs = []
        · refine .inl ⟨.inl hx, q.same R ⟨a, xs, rfl, t, ?_⟩ (rep_nl _)⟩
          have hd := (repL.nil_iff r).mp hx
          subst hd
          rw [show (List.replicate k.toNat ([] : List D)).flatten = [] by simp]
          exact r
        · by_cases h1 : k = 1
          · refine .inl ⟨.inr h1, q.same R ⟨a, xs, rfl, t, ?_⟩ (rep_nl _)⟩
            subst h1
            rw [show (List.replicate (1 : Int).toNat ds).flatten = ds by simp]
            exact r
          · by_cases h0 : k ≤ 0
            · refine .inr (.inl ⟨hx, h0, fun p hp => ?_⟩)
              refine Asks.tup q R (xs := []) ?_ hp
              rw [show k.toNat = 0 by omega]
              exact rfl
            · refine .inr (.inr ⟨hx, by omega, c.1, by omega, fun p hp => Asks.tup q R (repL.rept r _) hp⟩)
    | _ => cases hg
  | _ => cases hg⟩

/-! ### sequences -/
/-- a list in any hands -/
def lsAny (μ : Mem) : D → Option (List D)
  | .lck ds => some ds
  | d => isLst μ d
variable {H0 : Hp} {av θ : List Addr} {sd : Sl} {μ : Mem} {σ : L2.St} {H : Hp}
theorem lsAny_at {d : D} {v : V} {ds : List D} (R : RS X.K X.mg H0 av θ sd μ σ H) (r : rep X.K X.mg H0 av θ H d v) (h : lsAny μ d = some ds) : ∃ a xs, v = .ref a ∧ SqL X.K H a xs ∧ repL X.K X.mg H0 av θ H ds xs := by
  by_cases q : ∃ es, d = .lck es
  · obtain ⟨es, rfl⟩ := q
    cases h
    obtain ⟨a, xs, e, t, r⟩ := r
    exact ⟨a, xs, e, SqL.exh R.ex t, r⟩
  · have h : isLst μ d = some ds := by
      cases d <;> first | exact h | exact absurd ⟨_, rfl⟩ q
    obtain ⟨a, xs, e, t, r⟩ := lst_at R r h
    exact ⟨a, xs, e, .inl (.inl t), r⟩
theorem repL.get {K : PySem.W.Frag} {mg : Mg} : ∀ {ds : List D} {xs : List V} {i : Nat} {d : D}, repL K mg H0 av θ H ds xs → ds[i]? = some d → ∃ v, xs[i]? = some v ∧ rep K mg H0 av θ H d v
  | [], _, _, _, _, h => by simp at h
  | d0 :: ds, _, 0, d, ⟨x, r, e, rx, rt⟩, h => by
    simp at h
    subst h
    subst e
    exact ⟨x, rfl, rx⟩
  | d0 :: ds, _, i + 1, d, ⟨x, r, e, rx, rt⟩, h => by
    subst e
    obtain ⟨v, a, b⟩ := repL.get rt (by simpa using h)
    exact ⟨v, by simpa using a, b⟩
theorem repL.atI {K : PySem.W.Frag} {mg : Mg} {ds : List D} {xs : List V} {i : Int} {d : D} (r : repL K mg H0 av θ H ds xs) (h : L2.atI ds i = some d) : ∃ v, L2.atI xs i = some v ∧ rep K mg H0 av θ H d v := by
  unfold L2.atI at h ⊢
  rw [repL.length r]
  cases q : ixN ds.length i with
  | none => rw [q] at h; cases h
  | some j => rw [q] at h; exact repL.get r h
/-- an item is never a list just made -/
def itemD (o : Option D) : Option D := match o with
  | some (.new _) => none
  | o => o
theorem itemD_some {o : Option D} {d : D} (h : itemD o = some d) : o = some d ∧ ∀ ds, d ≠ .new ds := by
  cases o with
  | none => cases h
  | some e => cases e <;> first | (cases h; exact ⟨rfl, fun _ e => by cases e⟩) | cases h
def gIxL : Mem → D → D → Option D := fun μ x y => match y with
  | .int i => (lsAny μ x).bind fun ds => itemD (L2.atI ds i)
  | _ => none
def gIxT : Mem → D → D → Option D := fun _ x y => match x, y with
  | .tup ds, .int i => itemD (L2.atI ds i)
  | _, _ => none
def gIxS : Mem → D → D → Option D := fun _ x y => match x, y with
  | .str z, .int i => if z.length ≤ sizeLine then (L2.atI z.cps.toList i).map fun c => .str ⟨#[c]⟩ else none
  | _, _ => none
theorem xd_list : IxD X gIxL := fun H0 => ⟨_, ix_list, fun av θ sd μ σ H dx dy x y d Q R rx ry hg q => by
  cases dy with
  | int i =>
    have hg : ((lsAny μ dx).bind fun ds => itemD (L2.atI ds i)) = some d := hg
    cases h : lsAny μ dx with
    | none => rw [h] at hg; cases hg
    | some ds =>
      rw [h] at hg
      obtain ⟨h1, hn⟩ := itemD_some hg
      obtain ⟨a, xs, e, t, r⟩ := lsAny_at R rx h
      obtain ⟨v, hv, rv⟩ := repL.atI r h1
      exact ⟨a, xs, i, v, e, ry, t, hv, q.same R rv hn⟩
  | _ => cases hg⟩
theorem xd_tup : IxD X gIxT := fun H0 => ⟨_, ix_tup, fun av θ sd μ σ H dx dy x y d Q R rx ry hg q => by
  cases dx with
  | tup ds =>
    cases dy with
    | int i =>
      obtain ⟨h1, hn⟩ := itemD_some (show itemD (L2.atI ds i) = some d from hg)
      obtain ⟨a, xs, e, t, r⟩ := rx
      obtain ⟨v, hv, rv⟩ := repL.atI r h1
      exact ⟨a, xs, i, v, e, ry, t.sq, hv, q.same R rv hn⟩
    | _ => cases hg
  | _ => cases hg⟩
theorem xd_str : IxD X gIxS := fun H0 => ⟨_, ix_str, fun av θ sd μ σ H dx dy x y d Q R rx ry hg q => by
  cases dx with
  | str z =>
    cases dy with
    | int i =>
      have hg : (if z.length ≤ sizeLine then (L2.atI z.cps.toList i).map fun c => D.str ⟨#[c]⟩ else none) = some d := hg
      split at hg
      · rename_i hz
        cases h : L2.atI z.cps.toList i with
        | none => rw [h] at hg; cases hg
        | some c =>
          rw [h] at hg
          cases hg
          exact ⟨z, i, c, rx, ry, hz, h, q.same R rfl (fun _ e => by cases e)⟩
      · cases hg
    | _ => cases hg
  | _ => cases hg⟩
theorem IxR.or' {r r' : R2} (h : IxR X r) (h' : IxR X r') : IxR X (fun x y H Q => r x y H Q ∨ r' x y H Q) := by
  intro value slice pins s σ H x y v u Q I rx ry hh hs
  rcases hh with hh | hh
  · exact h value slice pins s σ H x y v u Q I rx ry hh hs
  · exact h' value slice pins s σ H x y v u Q I rx ry hh hs
theorem IxD.or {g g' : Mem → D → D → Option D} (h : IxD X g) (h' : IxD X g') : IxD X (fun μ x y => (g μ x y).or (g' μ x y)) := fun H0 => by
  obtain ⟨r, hr, k⟩ := h H0
  obtain ⟨r', hr', k'⟩ := h' H0
  refine ⟨_, IxR.or' hr hr', fun av θ sd μ σ H dx dy x y d Q R rx ry e q => ?_⟩
  have e : (g μ dx dy).or (g' μ dx dy) = some d := e
  cases z : g μ dx dy with
  | some u =>
    rw [z] at e
    obtain rfl : u = d := Option.some.inj e
    exact .inl (k av θ sd μ σ H dx dy x y u Q R rx ry z q)
  | none =>
    rw [z] at e
    exact .inr (k' av θ sd μ σ H dx dy x y d Q R rx ry e q)
/-- x[i] of a list, a tuple, a text -/
def gIx : Mem → D → D → Option D := fun μ x y => (gIxT μ x y).or ((gIxL μ x y).or (gIxS μ x y))
theorem xd_ix : IxD X gIx := xd_tup.or (xd_list.or xd_str)
end
end DL

/-! DL, part i: slices, sums of sequences, built-ins, what is walked. -/
namespace DL
open PySem PySem.Spec PyProof.Rows L2
section
variable {X : Cx} {K : PySem.W.Frag} {mg : Mg} {H0 : Hp} {W : WX} {av θ : List Addr} {sd : Sl} {μ : Mem} {σ : L2.St} {H : Hp}
/-! ### t + u, xs + ys, s + t -/
def gAddT : Mem → D → D → Option D := fun _ x y => match x, y with
  | .tup ds, .tup es => if ds.length + es.length ≤ sizeLine then some (.tup (ds ++ es)) else none
  | _, _ => none
theorem od_addT : OpD X (binaryOp .Add) gAddT := fun H0 => ⟨_, op_catA, fun av θ sd μ σ H dx dy x y d Q R rx ry hg q => by
  cases dx with
  | tup ds =>
    cases dy with
    | tup es =>
      have hg : (if ds.length + es.length ≤ sizeLine then some (D.tup (ds ++ es)) else none) = some d := hg
      split at hg
      · rename_i hz
        cases hg
        obtain ⟨a, xs, rfl, t, r⟩ := rx
        obtain ⟨b, ys, rfl, u, s⟩ := ry
        refine ⟨a, b, xs, ys, rfl, rfl, t.sq, u.sq, by rw [repL.length r, repL.length s]; exact hz, fun e => ?_, fun _ e => ?_, fun _ _ p hp => Asks.tup q R (repL.app r s) hp⟩
        · have hd := (repL.nil_iff r).mp e
          subst hd
          exact q.same R ⟨b, ys, rfl, u, s⟩ (rep_nl _)
        · have hd := (repL.nil_iff s).mp e
          subst hd
          exact q.same R ⟨a, xs, rfl, t, by rw [List.append_nil]; exact r⟩ (rep_nl _)
      · cases hg
    | _ => cases hg
  | _ => cases hg⟩
def gAddL : Mem → D → D → Option D := fun μ x y => (isLst μ x).bind fun ds => (isLst μ y).bind fun es => if ds.length + es.length ≤ sizeLine then some (.new (ds ++ es)) else none
theorem od_addL : OpD X (binaryOp .Add) gAddL := fun H0 => ⟨_, op_cat, fun av θ sd μ σ H dx dy x y d Q R rx ry hg q => by
  unfold gAddL at hg
  cases h1 : isLst μ dx with
  | none => rw [h1] at hg; cases hg
  | some ds =>
    cases h2 : isLst μ dy with
    | none => rw [h1, h2] at hg; cases hg
    | some es =>
      rw [h1, h2] at hg
      simp only [Option.bind_some] at hg
      split at hg
      · rename_i hz
        cases hg
        obtain ⟨a, xs, e1, t, r⟩ := lst_at R rx h1
        obtain ⟨b, ys, e2, u, s⟩ := lst_at R ry h2
        exact ⟨a, b, xs, ys, e1, e2, t, u, by rw [repL.length r, repL.length s]; exact hz, fun p hp => Asks.lst q R (repL.app r s) hp⟩
      · cases hg⟩
def gAddS : Mem → D → D → Option D := fun _ x y => match x, y with
  | .str a, .str b => if a.length + b.length ≤ sizeLine then some (.str (a ++ b)) else none
  | _, _ => none
theorem od_addS : OpD X (binaryOp .Add) gAddS := fun H0 => ⟨_, op_add_str, fun av θ sd μ σ H dx dy x y d Q R rx ry hg q => by
  cases dx with
  | str a =>
    cases dy with
    | str b =>
      have hg : (if a.length + b.length ≤ sizeLine then some (D.str (a ++ b)) else none) = some d := hg
      split at hg
      · rename_i hz
        cases hg
        exact ⟨a, b, rx, ry, hz, q.same R rfl (fun _ e => by cases e)⟩
      · cases hg
    | _ => cases hg
  | _ => cases hg⟩
/-- + -/
def gAdd : Mem → D → D → Option D := fun μ x y => (gAddI μ x y).or ((gAddT μ x y).or ((gAddL μ x y).or (gAddS μ x y)))
theorem od_add : OpD X (binaryOp .Add) gAdd := od_addI.or (od_addT.or (od_addL.or od_addS))
/-- xs * k -/
noncomputable def gMulL : Mem → D → D → Option D := fun μ x y => match y with
  | .int k => (isLst μ x).bind fun ds => when_ (-(2 ^ 63) ≤ k ∧ k < 2 ^ 63 ∧ ds.length * k.toNat ≤ sizeLine) (some (.new (List.replicate k.toNat ds).flatten))
  | _ => none
theorem od_mulL : OpD X (binaryOp .Mult) gMulL := fun H0 => ⟨_, op_rep, fun av θ sd μ σ H dx dy x y d Q R rx ry hg q => by
  cases dy with
  | int k =>
    have hg : ((isLst μ dx).bind fun ds => when_ (-(2 ^ 63) ≤ k ∧ k < 2 ^ 63 ∧ ds.length * k.toNat ≤ sizeLine) (some (D.new (List.replicate k.toNat ds).flatten))) = some d := hg
    cases h1 : isLst μ dx with
    | none => rw [h1] at hg; cases hg
    | some ds =>
      rw [h1] at hg
      simp only [Option.bind_some] at hg
      · obtain ⟨hz, hg⟩ := when_some hg
        cases hg
        obtain ⟨a, xs, e1, t, r⟩ := lst_at R rx h1
        exact ⟨a, k, xs, e1, ry, t, hz.1, hz.2.1, by rw [repL.length r]; exact hz.2.2, fun p hp => Asks.lst q R (repL.rept r _) hp⟩
  | _ => cases hg⟩
noncomputable def gMul : Mem → D → D → Option D := fun μ x y => (gMulI μ x y).or ((gMulT μ x y).or (gMulL μ x y))
theorem od_mul : OpD X (binaryOp .Mult) gMul := od_mulI.or (od_mulT.or od_mulL)

/-! ### slices -/
def cutD (ds : List D) (lo hi : Option Int) : List D := (ds.drop (HT.sIx ds.length 0 lo)).take (HT.sIx ds.length ds.length hi - HT.sIx ds.length 0 lo)
theorem repL.drop : ∀ (n : Nat) {ds : List D} {xs : List V}, repL K mg H0 av θ H ds xs → repL K mg H0 av θ H (ds.drop n) (xs.drop n)
  | 0, _, _, h => h
  | n + 1, [], xs, h => by
    have h : xs = [] := h
    subst h
    exact rfl
  | n + 1, d :: ds, _, ⟨x, r, e, _, t⟩ => by subst e; exact repL.drop n t
theorem repL.take' : ∀ (n : Nat) {ds : List D} {xs : List V}, repL K mg H0 av θ H ds xs → repL K mg H0 av θ H (ds.take n) (xs.take n)
  | 0, _, _, h => rfl
  | n + 1, [], xs, h => by
    have h : xs = [] := h
    subst h
    exact rfl
  | n + 1, d :: ds, _, ⟨x, r, e, h, t⟩ => by subst e; exact ⟨x, r.take n, rfl, h, repL.take' n t⟩
theorem repL.cut {ds : List D} {xs : List V} (h : repL K mg H0 av θ H ds xs) (lo hi : Option Int) : repL K mg H0 av θ H (cutD ds lo hi) (cutV xs lo hi) := by
  unfold cutD cutV
  rw [repL.length h]
  exact repL.take' _ (repL.drop _ h)
def gSlT : Mem → D → Option Int → Option Int → Option D := fun _ x lo hi => match x with
  | .tup ds => some (.tup (cutD ds lo hi))
  | _ => none
def gSlL : Mem → D → Option Int → Option Int → Option D := fun μ x lo hi => (lsAny μ x).map fun ds => .new (cutD ds lo hi)
def gSlS : Mem → D → Option Int → Option Int → Option D := fun _ x lo hi => match x with
  | .str z => if z.length ≤ sizeLine then some (.str (cutS z lo hi)) else none
  | _ => none
theorem cutD_whole {ds : List D} {lo hi : Option Int} (h : HT.sIx ds.length 0 lo = 0 ∧ HT.sIx ds.length ds.length hi = ds.length) : cutD ds lo hi = ds := by
  unfold cutD
  rw [h.1, h.2]
  simp
theorem sd_tup : SlD X gSlT := fun H0 => ⟨_, sl_tupA, fun av θ sd μ σ H dx x lo hi d Q R rx hg q => by
  cases dx with
  | tup ds =>
    cases hg
    obtain ⟨a, xs, rfl, t, r⟩ := rx
    refine ⟨a, xs, rfl, t.sq, fun h => ?_, fun _ p hp => Asks.tup q R (r.cut lo hi) hp⟩
    rw [repL.length r] at h
    rw [cutD_whole h] at q
    exact q.same R ⟨a, xs, rfl, t, r⟩ (rep_nl _)
  | _ => cases hg⟩
theorem sd_list : SlD X gSlL := fun H0 => ⟨_, sl_list, fun av θ sd μ σ H dx x lo hi d Q R rx hg q => by
  unfold gSlL at hg
  cases h1 : lsAny μ dx with
  | none => rw [h1] at hg; cases hg
  | some ds =>
    rw [h1] at hg
    cases hg
    obtain ⟨a, xs, e, t, r⟩ := lsAny_at R rx h1
    exact ⟨a, xs, e, t, fun p hp => Asks.lst q R (r.cut lo hi) hp⟩⟩
theorem sd_str : SlD X gSlS := fun H0 => ⟨_, sl_str, fun av θ sd μ σ H dx x lo hi d Q R rx hg q => by
  cases dx with
  | str z =>
    have hg : (if z.length ≤ sizeLine then some (D.str (cutS z lo hi)) else none) = some d := hg
    split at hg
    · rename_i hz
      cases hg
      exact ⟨z, rx, hz, q.same R rfl (fun _ e => by cases e)⟩
    · cases hg
  | _ => cases hg⟩
theorem SlD.or {g g' : Mem → D → Option Int → Option Int → Option D} (h : SlD X g) (h' : SlD X g') : SlD X (fun μ x l u => (g μ x l u).or (g' μ x l u)) := fun H0 => by
  obtain ⟨r, hr, k⟩ := h H0
  obtain ⟨r', hr', k'⟩ := h' H0
  refine ⟨_, SlR.or hr hr', fun av θ sd μ σ H dx x lo hi d Q R rx e q => ?_⟩
  have e : (g μ dx lo hi).or (g' μ dx lo hi) = some d := e
  cases z : g μ dx lo hi with
  | some u =>
    rw [z] at e
    obtain rfl : u = d := Option.some.inj e
    exact .inl (k av θ sd μ σ H dx x lo hi u Q R rx z q)
  | none =>
    rw [z] at e
    exact .inr (k' av θ sd μ σ H dx x lo hi d Q R rx e q)
def gSl : Mem → D → Option Int → Option Int → Option D := fun μ x l u => (gSlT μ x l u).or ((gSlL μ x l u).or (gSlS μ x l u))
theorem sd_sl : SlD X gSl := sd_tup.or (sd_list.or sd_str)

/-! ### built-ins -/
def c1 (g : Mem → D → Option D) : Mem → List D → Option D := fun μ xs => match xs with
  | [d] => g μ d
  | _ => none
def c2 (g : Mem → D → D → Option D) : Mem → List D → Option D := fun μ xs => match xs with
  | [d, e] => g μ d e
  | _ => none
theorem cd1 {f : Value} {g : Mem → D → Option D} {r : List V → Hp → VK → Prop} (hr : CallR X f r) (k : ∀ (H0 : Hp) (av θ : List Addr) (sd : Sl) (μ : Mem) (σ : L2.St) (H : Hp) (dx : D) (x : V) (d : D) (Q : VK), RS X.K X.mg H0 av θ sd μ σ H → rep X.K X.mg H0 av θ H dx x → g μ dx = some d →
    Asks X H0 av θ sd μ σ H d Q → r [x] H Q) : CallD X f (c1 g) := fun H0 => ⟨r, hr, fun av θ sd μ σ H ds xs d Q R rx hg q => by
  match ds, rx with
  | [], _ => cases hg
  | _ :: _ :: _, _ => cases hg
  | [y], ⟨x, rr, e, hx, hr⟩ =>
    have hr : rr = [] := hr
    subst hr
    subst e
    exact k H0 av θ sd μ σ H y x d Q R hx hg q⟩
theorem cd2 {f : Value} {g : Mem → D → D → Option D} {r : List V → Hp → VK → Prop} (hr : CallR X f r) (k : ∀ (H0 : Hp) (av θ : List Addr) (sd : Sl) (μ : Mem) (σ : L2.St) (H : Hp) (dx dy : D) (x y : V) (d : D) (Q : VK), RS X.K X.mg H0 av θ sd μ σ H → rep X.K X.mg H0 av θ H dx x → rep X.K X.mg H0 av θ H dy y → g μ dx dy = some d →
    Asks X H0 av θ sd μ σ H d Q → r [x, y] H Q) : CallD X f (c2 g) := fun H0 => ⟨r, hr, fun av θ sd μ σ H ds xs d Q R rx hg q => by
  match ds, rx with
  | [], _ => cases hg
  | [_], _ => cases hg
  | _ :: _ :: _ :: _, _ => cases hg
  | [u, v], ⟨x, _, e, hx, y, rr, e2, hy, hr⟩ =>
    have hr : rr = [] := hr
    subst hr
    subst e2
    subst e
    exact k H0 av θ sd μ σ H u v x y d Q R hx hy hg q⟩
def g1Abs : Mem → D → Option D := fun _ x => match x with
  | .int i => some (.int (if i < 0 then -i else i))
  | _ => none
def gAbs := c1 g1Abs
theorem cd_abs : CallD X (.builtin "abs") gAbs := cd1 call_abs fun H0 av θ sd μ σ H dx x d Q R rx hg q => by
  cases dx with
  | int i => cases hg; have rx : x = .int i := rx; subst rx; exact ⟨i, rfl, q.same R rfl (fun _ e => by cases e)⟩
  | _ => cases hg
def g1Int : Mem → D → Option D := fun _ x => match x with
  | .int i => some (.int i)
  | .bl b => some (.int (if b then 1 else 0))
  | _ => none
def gInt := c1 g1Int
theorem cd_int : CallD X (.type "int") gInt := cd1 call_int1 fun H0 av θ sd μ σ H dx x d Q R rx hg q => by
  cases dx with
  | int i => cases hg; have rx : x = .int i := rx; subst rx; exact .inl ⟨i, rfl, q.same R rfl (fun _ e => by cases e)⟩
  | bl i => cases hg; have rx : x = .bl i := rx; subst rx; exact .inr ⟨i, rfl, q.same R rfl (fun _ e => by cases e)⟩
  | _ => cases hg
/-- the items of a list or tuple -/
def sqAny (μ : Mem) : D → Option (List D)
  | .tup ds => some ds
  | d => lsAny μ d
theorem sqAny_at {d : D} {v : V} {ds : List D} (R : RS X.K X.mg H0 av θ sd μ σ H) (r : rep X.K X.mg H0 av θ H d v) (h : sqAny μ d = some ds) : ∃ a xs, v = .ref a ∧ (SqL X.K H a xs ∨ SqT X.K H a xs) ∧ repL X.K X.mg H0 av θ H ds xs := by
  by_cases q : ∃ es, d = .tup es
  · obtain ⟨es, rfl⟩ := q
    cases h
    obtain ⟨a, xs, e, t, r⟩ := r
    exact ⟨a, xs, e, .inr t.sq, r⟩
  · have h : lsAny μ d = some ds := by
      cases d <;> first | exact h | exact absurd ⟨_, rfl⟩ q
    obtain ⟨a, xs, e, t, r⟩ := lsAny_at R r h
    exact ⟨a, xs, e, .inl t, r⟩
def g1Len : Mem → D → Option D := fun μ x => match x with
  | .str z => if z.length ≤ sizeLine then some (.int z.length) else none
  | d => (sqAny μ d).map fun ds => .int ds.length
def gLen := c1 g1Len
theorem cd_len : CallD X (.builtin "len") gLen := cd1 call_len fun H0 av θ sd μ σ H dx x d Q R rx hg q => by
  by_cases hs : ∃ z, dx = .str z
  · obtain ⟨z, rfl⟩ := hs
    have hg : (if z.length ≤ sizeLine then some (D.int z.length) else none) = some d := hg
    split at hg
    · rename_i hz
      cases hg
      have rx : x = .str z := rx
      subst rx
      exact ⟨_, z.length, rfl, ⟨hz, rfl⟩, q.same R rfl (fun _ e => by cases e)⟩
    · cases hg
  · have hg : ((sqAny μ dx).map fun ds => D.int ds.length) = some d := by
      cases dx <;> first | exact hg | exact absurd ⟨_, rfl⟩ hs
    cases h : sqAny μ dx with
    | none => rw [h] at hg; cases hg
    | some es =>
      rw [h] at hg
      cases hg
      obtain ⟨a, ys, rfl, t, r⟩ := sqAny_at R rx h
      exact ⟨_, es.length, rfl, t.elim (fun t => .inl ⟨ys, t, (repL.length r).symm⟩) (fun t => .inr ⟨ys, t, (repL.length r).symm⟩), q.same R rfl (fun _ e => by cases e)⟩
/-- ints, bools of a list -/
def intD : D → Option Int
  | .int i => some i
  | _ => none
def boolD : D → Option Bool
  | .bl i => some i
  | _ => none
def allD {α : Type} (f : D → Option α) : List D → Option (List α)
  | [] => some []
  | d :: ds => (f d).bind fun i => (allD f ds).map fun is => i :: is
theorem all_rep {α : Type} {f : D → Option α} {g : α → V} (hf : ∀ d v i, rep K mg H0 av θ H d v → f d = some i → v = g i) : ∀ {ds : List D} {xs : List V} {is : List α}, repL K mg H0 av θ H ds xs → allD f ds = some is → xs = is.map g
  | [], xs, is, r, h => by
    have r : xs = [] := r
    cases h
    exact r
  | d :: ds, xs, is, ⟨x, r, e, hx, hr⟩, h => by
    have h : ((f d).bind fun i => (allD f ds).map fun is => i :: is) = some is := h
    cases q0 : f d with
    | none => rw [q0] at h; cases h
    | some i =>
      rw [q0] at h
      cases q : allD f ds with
      | none => rw [q] at h; cases h
      | some js =>
        rw [q] at h
        cases h
        rw [e, hf d x i hx q0, all_rep hf hr q]
        rfl
theorem int_rep : ∀ d v i, rep K mg H0 av θ H d v → intD d = some i → v = V.int i := fun d v i r h => by
  cases d <;> cases h
  exact r
theorem bool_rep : ∀ d v i, rep K mg H0 av θ H d v → boolD d = some i → v = V.bl i := fun d v i r h => by
  cases d <;> cases h
  exact r
def gOver {α : Type} (f : D → Option α) (g : List α → D) : Mem → D → Option D := fun μ x => (lsAny μ x).bind fun ds => (allD f ds).map g
theorem over_at {α : Type} {f : D → Option α} {g : List α → D} {gv : α → V} (hf : ∀ d v i, rep X.K X.mg H0 av θ H d v → f d = some i → v = gv i) {dx d : D} {x : V} (R : RS X.K X.mg H0 av θ sd μ σ H) (rx : rep X.K X.mg H0 av θ H dx x) (hg : gOver f g μ dx = some d) :
    ∃ a is, x = .ref a ∧ SqL X.K H a (is.map gv) ∧ d = g is := by
  unfold gOver at hg
  cases h : lsAny μ dx with
  | none => rw [h] at hg; cases hg
  | some es =>
    rw [h] at hg
    have hg : (allD f es).map g = some d := hg
    cases h2 : allD f es with
    | none => rw [h2] at hg; cases hg
    | some is =>
      rw [h2] at hg
      cases hg
      obtain ⟨a, ys, rfl, t, r⟩ := lsAny_at R rx h
      rw [all_rep hf r h2] at t
      exact ⟨a, is, rfl, t, rfl⟩
def gSum := c1 (gOver intD fun is => .int is.sum)
theorem cd_sum (hc : X.calm = true) : CallD X (.builtin "sum") gSum := cd1 (cr_sum hc) fun H0 av θ sd μ σ H dx x d Q R rx hg q => by
  obtain ⟨a, is, rfl, t, rfl⟩ := over_at int_rep R rx hg
  exact ⟨a, is, rfl, t, q.same R rfl (fun _ e => by cases e)⟩
def gAll := c1 (gOver boolD fun is => .bl (is.all id))
def gAny := c1 (gOver boolD fun is => .bl (is.any id))
theorem cd_all (hc : X.calm = true) : CallD X (.builtin "all") gAll := cd1 (cr_all hc) fun H0 av θ sd μ σ H dx x d Q R rx hg q => by
  obtain ⟨a, is, rfl, t, rfl⟩ := over_at bool_rep R rx hg
  exact ⟨a, is, rfl, t, q.same R rfl (fun _ e => by cases e)⟩
theorem cd_any (hc : X.calm = true) : CallD X (.builtin "any") gAny := cd1 (cr_any hc) fun H0 av θ sd μ σ H dx x d Q R rx hg q => by
  obtain ⟨a, is, rfl, t, rfl⟩ := over_at bool_rep R rx hg
  exact ⟨a, is, rfl, t, q.same R rfl (fun _ e => by cases e)⟩
/-- tuple(x) -/
def g1Tuple : Mem → D → Option D := fun μ x => match x with
  | .tup ds => some (.tup ds)
  | d => (lsAny μ d).map fun ds => .tup ds
def gTuple := c1 g1Tuple
theorem cd_tuple : CallD X (.type "tuple") gTuple := cd1 call_tuple_of fun H0 av θ sd μ σ H dx x d Q R rx hg q => by
  by_cases hs : ∃ z, dx = .tup z
  · obtain ⟨z, rfl⟩ := hs
    cases hg
    obtain ⟨a, ys, rfl, t, r⟩ := rx
    exact ⟨a, ys, rfl, .inr ⟨t.sq, q.same R ⟨a, ys, rfl, t, r⟩ (rep_nl _)⟩⟩
  · have hg : ((lsAny μ dx).map fun ds => D.tup ds) = some d := by
      cases dx <;> first | exact hg | exact absurd ⟨_, rfl⟩ hs
    cases h : lsAny μ dx with
    | none => rw [h] at hg; cases hg
    | some es =>
      rw [h] at hg
      cases hg
      obtain ⟨a, ys, rfl, t, r⟩ := lsAny_at R rx h
      exact ⟨a, ys, rfl, .inl ⟨t, fun p hp => Asks.tup q R r hp⟩⟩
/-- list(x) -/
def g1List : Mem → D → Option D := fun μ d => (sqAny μ d).map fun ds => .new ds
def gList := c1 g1List
theorem cd_list : CallD X (.type "list") gList := cd1 call_list_of fun H0 av θ sd μ σ H dx x d Q R rx hg q => by
  have hg : ((sqAny μ dx).map fun ds => D.new ds) = some d := hg
  cases h : sqAny μ dx with
  | none => rw [h] at hg; cases hg
  | some es =>
    rw [h] at hg
    cases hg
    obtain ⟨a, ys, rfl, t, r⟩ := sqAny_at R rx h
    exact ⟨a, ys, rfl, t, fun p hp => Asks.lst q R r hp⟩
/-- max(i, j), min(i, j) -/
def gMax2 := c2 (gI0 fun i j => .int (if j > i then j else i))
def gMin2 := c2 (gI0 fun i j => .int (if j < i then j else i))
theorem gI0_some {g : Int → Int → D} {dx dy d : D} (h : gI0 g μ dx dy = some d) : ∃ i j, dx = .int i ∧ dy = .int j ∧ d = g i j := by
  cases dx with
  | int i =>
    cases dy with
    | int j => cases h; exact ⟨i, j, rfl, rfl, rfl⟩
    | _ => cases h
  | _ => cases h
theorem cd_max2 (hc : X.calm = true) : CallD X (.builtin "max") gMax2 := cd2 (call_max2 hc) fun H0 av θ sd μ σ H dx dy x y d Q R rx ry hg q => by
  obtain ⟨i, j, rfl, rfl, rfl⟩ := gI0_some hg
  have rx : x = .int i := rx
  have ry : y = .int j := ry
  subst rx; subst ry
  exact ⟨i, j, rfl, q.same R rfl (fun _ e => by cases e)⟩
theorem cd_min2 (hc : X.calm = true) : CallD X (.builtin "min") gMin2 := cd2 (call_min2 hc) fun H0 av θ sd μ σ H dx dy x y d Q R rx ry hg q => by
  obtain ⟨i, j, rfl, rfl, rfl⟩ := gI0_some hg
  have rx : x = .int i := rx
  have ry : y = .int j := ry
  subst rx; subst ry
  exact ⟨i, j, rfl, q.same R rfl (fun _ e => by cases e)⟩
/-- isinstance(x, T), T built-in -/
def tyName (μ : Mem) : D → Option String
  | .non => some "NoneType"
  | .bl _ => some "bool"
  | .int _ => some "int"
  | .str _ => some "str"
  | .tup _ => some "tuple"
  | d => (isLst μ d).map fun _ => "list"
theorem tyName_ok {d : D} {v : V} {T : String} (R : RS X.K X.mg H0 av θ sd μ σ H) (r : rep X.K X.mg H0 av θ H d v) (h : tyName μ d = some T) : TyX X.K H v (.type T) := by
  have lists : ∀ {d : D}, rep X.K X.mg H0 av θ H d v → ((isLst μ d).map fun _ => "list") = some T → TyX X.K H v (.type T) := fun {d} r h => by
    cases q : isLst μ d with
    | none => rw [q] at h; cases h
    | some ds =>
      rw [q] at h
      cases h
      obtain ⟨a, xs, rfl, t, _⟩ := lst_at R r q
      exact .base (.lst t)
  cases d with
  | non => cases h; cases r; exact .base .non
  | bl b => cases h; cases r; exact .base (.bl b)
  | int i => cases h; cases r; exact .base (.int i)
  | str s => cases h; cases r; exact .base (.str s)
  | tup ds =>
    cases h
    obtain ⟨a, xs, rfl, t, _⟩ := r
    rcases t with ⟨_, _, t | ⟨o, t⟩⟩ | ⟨o, its, n, ho, hc, _⟩
    · exact .base (.tup t)
    · exact .fTuple t
    · exact .kTuple ho hc
  | _ => exact lists r h
def g2Isi : Mem → D → D → Option D := fun μ d c => match c with
  | .ty T => (tyName μ d).bind fun t => (kitB t T).map fun b => .bl b
  | _ => none
def gIsi := c2 g2Isi
theorem cd_isi : CallD X (.builtin "isinstance") gIsi := cd2 call_isi fun H0 av θ sd μ σ H dx dy x y d Q R rx ry hg q => by
  cases dy with
  | ty T =>
    have ry : y = .ty T := ry
    subst ry
    have hg : ((tyName μ dx).bind fun t => (kitB t T).map fun b => D.bl b) = some d := hg
    cases h : tyName μ dx with
    | none => rw [h] at hg; cases hg
    | some t =>
      rw [h] at hg
      have hg : ((kitB t T).map fun b => D.bl b) = some d := hg
      cases h2 : kitB t T with
      | none => rw [h2] at hg; cases hg
      | some b =>
        rw [h2] at hg
        cases hg
        exact ⟨x, .ty T, .type t, .type T, b, rfl, .ty T, tyName_ok R rx h, kit_ty h2, q.same R rfl (fun _ e => by cases e)⟩
  | _ => cases hg
theorem pd_ty {x : Str} {T : String} {pos : Pos} (hg : Gl X x) (hm : X.mg x = none) (hv : bootBuiltins x = some (.type T)) (hn : x ≠ "__name__" := by decide) (hd : (x == ("__debug__" : Str)) = false := by decide) : PE X (.Name x pos) (tE X.K X.mg H0 W (eC (.ty T))) :=
  pd_c (pe_bltn (v := .ty T) hg hm hv rfl hn hd) (fun _ _ _ => rfl) (fun _ e => by cases e)
end
end DL

/-! DL, part j: what is walked; stores by place; while. -/
namespace DL
open PySem PySem.Spec PyProof.Rows L2
section
variable {X : Cx} {K : PySem.W.Frag} {mg : Mg} {H0 : Hp} {W : WX} {av bv θ θ1 : List Addr} {sd : Sl} {μ : Mem} {σ : L2.St} {H H1 : Hp} {a b e : Expr} {f fa fb : EE} {ga : EA} {pos : Pos}
/-! ### iterators -/
theorem goes_later (g : Gr θ θ1 H H1) (hb : ∀ b ∈ bv, b ∈ av ∨ H b = none) : Goes av bv θ θ1 H H1 := fun a o n m h =>
  ⟨g.notin n h, fun q => (hb a q).elim m (fun z => by rw [h] at z; cases z), g.keep a o n h⟩
/-- whoever looks later still finds these items at a -/
def Later (K : PySem.W.Frag) (mg : Mg) (H0 : Hp) (av : List Addr) (S : PySem.W.Frag → Hp → Addr → List V → Prop) (a : Addr) (ds : List D) (chk : Mem → Prop) (θ : List Addr) (H : Hp) : Prop :=
  ∀ (bv θ1 : List Addr) (sd1 : Sl) (μ1 : Mem) (σ1 : L2.St) (H1 : Hp), Gr θ θ1 H H1 → (∀ b ∈ bv, b ∈ av ∨ H b = none) → RS K mg H0 bv θ1 sd1 μ1 σ1 H1 → chk μ1 → ∃ ys, S K H1 a ys ∧ repL K mg H0 bv θ1 H1 ds ys
/-- a list or tuple: its items, what has to stand -/
def srcD (μ : Mem) : D → Option (List D × (Mem → Prop))
  | .tup ds => some (ds, fun _ => True)
  | .ref n => match μ[n]? with
    | some (.lst ds) => some (ds, fun μ' => μ'[n]? = some (.lst ds))
    | _ => none
  | .lst ds => some (ds, fun _ => True)
  | .lck ds => some (ds, fun _ => True)
  | .fr ds => some (ds, fun _ => True)
  | .new ds => some (ds, fun _ => True)
  | _ => none
def isTupD : D → Bool
  | .tup _ => true
  | _ => false
theorem src_tup {d : D} {v : V} {ds : List D} {chk : Mem → Prop} (R : RS K mg H0 av θ sd μ σ H) (r : rep K mg H0 av θ H d v) (h : srcD μ d = some (ds, chk)) (ht : isTupD d = true) : chk μ ∧ ∃ a xs, v = .ref a ∧ SqT K H a xs ∧ Later K mg H0 av SqT a ds chk θ H := by
  cases d with
  | tup es =>
    cases h
    obtain ⟨a, xs, e, t, r⟩ := r
    exact ⟨trivial, a, xs, e, t.sq, fun bv θ1 sd1 μ1 σ1 H1 g hb R1 _ => ⟨xs, (t.tr (goes_later g hb)).sq, repL.tr (fun _ _ => g.get) (goes_later g hb) _ _ r⟩⟩
  | _ => cases ht
theorem src_lst {d : D} {v : V} {ds : List D} {chk : Mem → Prop} (R : RS K mg H0 av θ sd μ σ H) (r : rep K mg H0 av θ H d v) (h : srcD μ d = some (ds, chk)) (ht : isTupD d = false) :
    chk μ ∧ ∃ a xs, v = .ref a ∧ SqL K H a xs ∧ Later K mg H0 av SqL a ds chk θ H := by
  cases d with
  | tup es => cases ht
  | lst es =>
    cases h
    obtain ⟨a, xs, e, t, r⟩ := r
    exact ⟨trivial, a, xs, e, .inl (.inl (R.ex _ _ t)), fun bv θ1 sd1 μ1 σ1 H1 g hb R1 _ => ⟨xs, .inl (.inl (R1.ex _ _ t)), repL.tr (fun _ _ => g.get) (goes_later g hb) _ _ r⟩⟩
  | lck es =>
    cases h
    obtain ⟨a, xs, e, t, r⟩ := r
    exact ⟨trivial, a, xs, e, SqL.exh R.ex t, fun bv θ1 sd1 μ1 σ1 H1 g hb R1 _ => ⟨xs, SqL.exh R1.ex t, repL.tr (fun _ _ => g.get) (goes_later g hb) _ _ r⟩⟩
  | fr es =>
    cases h
    obtain ⟨a, xs, e, n, m, f, t, r⟩ := r
    exact ⟨trivial, a, xs, e, .inl (.inl t), fun bv θ1 sd1 μ1 σ1 H1 g hb R1 _ => ⟨xs, .inl (.inl (g.keep _ _ n t)), repL.tr (fun _ _ => g.get) (goes_later g hb) _ _ r⟩⟩
  | new es =>
    cases h
    obtain ⟨a, xs, e, n, m, f, t, r⟩ := r
    exact ⟨trivial, a, xs, e, .inl (.inl t), fun bv θ1 sd1 μ1 σ1 H1 g hb R1 _ => ⟨xs, .inl (.inl (g.keep _ _ n t)), repL.tr (fun _ _ => g.get) (goes_later g hb) _ _ r⟩⟩
  | ref n =>
    obtain ⟨a, e, hn⟩ := r
    have h : (match μ[n]? with
      | some (.lst ds) => some (ds, fun (μ' : Mem) => μ'[n]? = some (MO.lst ds))
      | _ => none) = some (ds, chk) := h
    cases hm : μ[n]? with
    | none => rw [hm] at h; cases h
    | some mo =>
      rw [hm] at h
      cases mo with
      | ins C fs => cases h
      | lst es =>
        cases h
        obtain ⟨xs, t, r⟩ := R.mem n _ a hm hn
        exact ⟨hm, a, xs, e, .inl (.inl t), fun bv θ1 sd1 μ1 σ1 H1 g hb R1 hc => by
          obtain ⟨ys, t1, r1⟩ := R1.mem n _ a hc (g.get hn)
          exact ⟨ys, .inl (.inl t1), r1⟩⟩
  | _ => cases h
theorem src_ok {d : D} {v : V} {ds : List D} {chk : Mem → Prop} (R : RS K mg H0 av θ sd μ σ H) (r : rep K mg H0 av θ H d v) (h : srcD μ d = some (ds, chk)) :
    chk μ ∧ ∃ a xs, v = .ref a ∧ ((SqL K H a xs ∧ Later K mg H0 av SqL a ds chk θ H) ∨ (SqT K H a xs ∧ Later K mg H0 av SqT a ds chk θ H)) := by
  cases ht : isTupD d with
  | true => obtain ⟨c, a, xs, e, t, l⟩ := src_tup R r h ht; exact ⟨c, a, xs, e, .inr ⟨t, l⟩⟩
  | false => obtain ⟨c, a, xs, e, t, l⟩ := src_lst R r h ht; exact ⟨c, a, xs, e, .inl ⟨t, l⟩⟩
def iSq (K : PySem.W.Frag) (tl : TE) : TI := fun σ H R => tl σ H fun x H1 => ∃ a, x = .ref a ∧ ((∃ xs, SqL K H1 a xs) ∧ R (Itl K a) H1 ∨ (∃ xs, SqT K H1 a xs) ∧ R (Itt K a) H1)
theorem pi_sq {tg l : Expr} {tl : TE} (hl : PE X l tl) : PI X tg l (iSq X.K tl) := by
  refine ⟨fun pins s σ H R I h => thn (hl.run pins s σ H _ I h) fun v s1 ⟨x, H1, I1, r1, a, e, q⟩ => ?_⟩
  subst e
  cases r1
  rcases q with ⟨⟨xs, hq⟩, q⟩ | ⟨⟨xs, hq⟩, q⟩
  · obtain ⟨ws, rv, p, _⟩ := I1.list hq
    refine wpAny_pyIter_list p.isList ⟨s1.heap.objs.size, [s1.heap.objs.size], _, _, H1, rfl, I1.kept (t' := s1.toks) fun b o z => Heap.get?_push_of_some _ z, turn_list a _, ⟨_, Heap.get?_push_size _ rfl, rfl, rfl⟩, fun b hb => ?_, q⟩
    rw [List.mem_singleton.mp hb]
    exact I1.fpOk (Nat.le_refl _) (I1.hok.fresh (Nat.le_refl _))
  · obtain ⟨ws, rv, p, _⟩ := I1.tuple hq
    refine wpAny_pyIter_tuple (show s1.heap.IsTuple a ws.toArray from p) ⟨s1.heap.objs.size, [s1.heap.objs.size], _, _, H1, rfl, I1.kept (t' := s1.toks) fun b o z => Heap.get?_push_of_some _ z, turn_tuple a _, ⟨_, Heap.get?_push_size _ rfl, rfl, rfl⟩, fun b hb => ?_, q⟩
    rw [List.mem_singleton.mp hb]
    exact I1.fpOk (Nat.le_refl _) (I1.hok.fresh (Nat.le_refl _))
theorem it_list {a : Addr} {ds : List D} {chk : Mem → Prop} (h : Later K mg H0 av SqL a ds chk θ H) : ItOk K mg H0 av (Itl K a) ds chk θ H := fun i bv θ1 sd1 μ1 σ1 H1 g hb R hc => by
  obtain ⟨ys, t, r⟩ := h bv θ1 sd1 μ1 σ1 H1 g hb R hc
  refine ⟨fun d hd => ?_, fun hi => ⟨ys, t, by rw [repL.length r]; exact hi⟩⟩
  obtain ⟨v, hv, rv⟩ := repL.get r hd
  refine ⟨⟨ys, v, t, hv⟩, fun x H2 ⟨e, hx⟩ => ?_⟩
  subst e
  have := hx ys t
  rw [hv] at this
  cases this
  exact ⟨Exh.refl _, rv⟩
theorem it_tup {a : Addr} {ds : List D} {chk : Mem → Prop} (h : Later K mg H0 av SqT a ds chk θ H) : ItOk K mg H0 av (Itt K a) ds chk θ H := fun i bv θ1 sd1 μ1 σ1 H1 g hb R hc => by
  obtain ⟨ys, t, r⟩ := h bv θ1 sd1 μ1 σ1 H1 g hb R hc
  refine ⟨fun d hd => ?_, fun hi => ⟨ys, t, by rw [repL.length r]; exact hi⟩⟩
  obtain ⟨v, hv, rv⟩ := repL.get r hd
  refine ⟨⟨ys, v, t, hv⟩, fun x H2 ⟨e, hx⟩ => ?_⟩
  subst e
  have := hx ys t
  rw [hv] at this
  cases this
  exact ⟨Exh.refl _, rv⟩
/-- a value, then what walks it -/
theorem PostI.val {R : It → Hp → Prop} {m : R3 D} {k : D → Mem → R3 (List D × (Mem → Prop))} {Q : VK} (P : PostI K mg H0 W av θ sd σ H R (bE m k))
    (h : ∀ (x : D) (μ1 : Mem) (y : V) (θ1 : List Addr) (H1 : Hp) (nv : List Addr), Gr θ θ1 H H1 → RS K mg H0 (nv ++ av) θ1 sd μ1 σ H1 → relD K mg H0 av θ1 H H1 nv x y → PostI K mg H0 W av θ1 sd σ H1 R (k x μ1) → Q y H1) :
    Post K mg H0 W (relD K mg H0) av θ sd σ H Q m := by
  match m, P with
  | some (.ok x, μ'), P =>
    refine fun y θ' H' nv g R1 r => h x μ' y θ' H' nv g R1 r ?_
    have P : PostI K mg H0 W av θ sd σ H R (k x μ') := P
    match h2 : k x μ', P with
    | some (.error e, μ2), P => exact fun cls dd θ2 H2 g2 R2 r2 => P cls dd θ2 H2 (g.trans g2) R2 r2
    | some (.ok (ds, chk), μ2), P => exact fun J θ2 H2 g2 R2 hc hJ => P J θ2 H2 (g.trans g2) R2 hc hJ
  | some (.error e, μ'), P => exact P
theorem PostI.vals {R : It → Hp → Prop} {m : R3 (List D)} {k : List D → Mem → R3 (List D × (Mem → Prop))} {Q : List V → Hp → Prop} (P : PostI K mg H0 W av θ sd σ H R (bE m k))
    (h : ∀ (x : List D) (μ1 : Mem) (y : List V) (θ1 : List Addr) (H1 : Hp) (nv : List Addr), Gr θ θ1 H H1 → RS K mg H0 (nv ++ av) θ1 sd μ1 σ H1 → repL K mg H0 av θ1 H1 x y → PostI K mg H0 W av θ1 sd σ H1 R (k x μ1) → Q y H1) :
    Post K mg H0 W (relA K mg H0) av θ sd σ H Q m := by
  match m, P with
  | some (.ok x, μ'), P =>
    refine fun y θ' H' nv g R1 r => h x μ' y θ' H' nv g R1 r ?_
    have P : PostI K mg H0 W av θ sd σ H R (k x μ') := P
    match h2 : k x μ', P with
    | some (.error e, μ2), P => exact fun cls dd θ2 H2 g2 R2 r2 => P cls dd θ2 H2 (g.trans g2) R2 r2
    | some (.ok (ds, chk), μ2), P => exact fun J θ2 H2 g2 R2 hc hJ => P J θ2 H2 (g.trans g2) R2 hc hJ
  | some (.error e, μ'), P => exact P
/-- for x in xs -/
def iSeq (f : EE) : IE := fun sd μ => bE (f sd μ) fun d μ1 => (srcD μ1 d).map fun z => (.ok z, μ1)
theorem pid_seq {tg l : Expr} (hl : PE X l (tE X.K X.mg H0 W f)) : PI X tg l (tI X.K X.mg H0 W (iSeq f)) := by
  refine wkI (pi_sq hl) fun σ H R ⟨av, θ, sd, μ, Rs, P⟩ => ⟨av, θ, sd, μ, Rs, P.val fun x μ1 y θ1 H1 nv g R1 r P1 => ?_⟩
  cases h : srcD μ1 x with
  | none => rw [h] at P1; exact P1.elim
  | some z =>
    obtain ⟨ds, chk⟩ := z
    rw [h] at P1
    obtain ⟨hc, a, xs, e, q⟩ := src_ok R1.plain r.1 h
    refine ⟨a, e, ?_⟩
    rcases q with ⟨t, l⟩ | ⟨t, l⟩
    · exact .inl ⟨⟨xs, t⟩, P1 _ θ1 H1 Gr.refl R1.plain hc (it_list l)⟩
    · exact .inr ⟨⟨xs, t⟩, P1 _ θ1 H1 Gr.refl R1.plain hc (it_tup l)⟩
/-- range -/
def rangeD (lo : Int) (n : Nat) : List D := (List.range n).map fun i => .int (lo + (i : Nat))
def one : List D → Option D
  | [d] => some d
  | _ => none
def two : List D → Option (D × D)
  | [d, e] => some (d, e)
  | _ => none
theorem one_rep : ∀ {ds : List D} {vs : List V} {d : D}, repL K mg H0 av θ H ds vs → one ds = some d → ∃ v, vs = [v] ∧ rep K mg H0 av θ H d v
  | [_], _, _, ⟨x, r, e, hx, hr⟩, h => by
    cases h
    have hr : r = [] := hr
    subst hr
    exact ⟨x, e, hx⟩
theorem two_rep {ds : List D} {vs : List V} {d e : D} (r : repL K mg H0 av θ H ds vs) (h : two ds = some (d, e)) : ∃ v w, vs = [v, w] ∧ rep K mg H0 av θ H d v ∧ rep K mg H0 av θ H e w := by
  cases ds with
  | nil => cases h
  | cons d1 ds =>
    cases ds with
    | nil => cases h
    | cons d2 ds =>
      cases ds with
      | cons d3 ds => cases h
      | nil =>
        obtain ⟨x, r1, e1, hx, y, r2, e2, hy, hr⟩ := r
        have hr : r2 = [] := hr
        injection h with h
        injection h with ha hb
        subst hr
        subst e2
        subst ha
        subst hb
        exact ⟨x, y, e1, hx, hy⟩
noncomputable def iR1 (f : EA) : IE := fun sd μ => bE (f sd μ) fun ds μ1 => (one ds).bind fun d => (intD d).bind fun n => when_ (-(2 ^ 62) ≤ n ∧ n < 2 ^ 62) (some (.ok (rangeD 0 n.toNat, fun _ => True), μ1))
noncomputable def iR2 (f : EA) : IE := fun sd μ => bE (f sd μ) fun ds μ1 => (two ds).bind fun d => (intD d.1).bind fun a => (intD d.2).bind fun n => when_ ((-(2 ^ 62) ≤ a ∧ a < 2 ^ 62) ∧ -(2 ^ 62) ≤ n ∧ n < 2 ^ 62) (some (.ok (rangeD a (n - a).toNat, fun _ => True), μ1))
theorem rangeD_length (lo : Int) (n : Nat) : (rangeD lo n).length = n := by simp [rangeD]
theorem it_range {lo : Int} {n : Nat} : ItOk K mg H0 av (Itr lo n) (rangeD lo n) (fun _ => True) θ H := fun i bv θ1 sd1 μ1 σ1 H1 g hb R hc => by
  refine ⟨fun d hd => ?_, fun hi => by rw [rangeD_length] at hi; exact hi⟩
  have hi : i < n := by
    have := (List.getElem?_eq_some_iff.mp hd).1
    rw [rangeD_length] at this
    exact this
  unfold rangeD at hd
  rw [List.getElem?_map, List.getElem?_range hi] at hd
  cases hd
  refine ⟨hi, fun x H2 ⟨e, hx⟩ => ?_⟩
  subst e
  exact ⟨Exh.refl _, hx⟩
theorem pid_range1 {tg : Expr} {p : Pos} (hm : X.mg "range" = none) (ha : PA X [a] (tA X.K X.mg H0 W ga)) (hg : Gl X "range" := by rfl) (hs : starEach [a] X.env = [(false, eval a X.env)] := by rfl) : PI X tg (.Call (.Name "range" p) [a] [] pos) (tI X.K X.mg H0 W (iR1 ga)) := by
  refine wkI (pi_range1 hg hm ha hs) fun σ H R ⟨av, θ, sd, μ, Rs, P⟩ => ⟨av, θ, sd, μ, Rs, P.vals fun ds μ1 vs θ1 H1 nv g R1 r P1 => ?_⟩
  cases h1 : one ds with
  | none => rw [h1] at P1; exact P1.elim
  | some d =>
    cases h2 : intD d with
    | none => rw [h1, Option.bind_some, h2] at P1; exact P1.elim
    | some n =>
      rw [h1, Option.bind_some, h2, Option.bind_some] at P1
      obtain ⟨v, e, hv⟩ := one_rep r h1
      rw [int_rep d v n hv h2] at e
      by_cases c : -(2 ^ 62) ≤ n ∧ n < 2 ^ 62
      · rw [when_t c] at P1
        exact ⟨n, e, c.1, c.2, P1 _ θ1 H1 Gr.refl R1.plain trivial it_range⟩
      · unfold when_ at P1; rw [if_neg c] at P1; exact P1.elim
theorem pid_range2 {tg : Expr} {p : Pos} (hm : X.mg "range" = none) (ha : PA X [a, b] (tA X.K X.mg H0 W ga)) (hg : Gl X "range" := by rfl) (hs : starEach [a, b] X.env = [(false, eval a X.env), (false, eval b X.env)] := by rfl) (hs2 : starEach [b] X.env = [(false, eval b X.env)] := by rfl) :
    PI X tg (.Call (.Name "range" p) [a, b] [] pos) (tI X.K X.mg H0 W (iR2 ga)) := by
  refine wkI (pi_range2 hg hm ha hs hs2) fun σ H R ⟨av, θ, sd, μ, Rs, P⟩ => ⟨av, θ, sd, μ, Rs, P.vals fun ds μ1 vs θ1 H1 nv g R1 r P1 => ?_⟩
  cases h1 : two ds with
  | none => rw [h1] at P1; exact P1.elim
  | some d =>
    obtain ⟨d1, d2⟩ := d
    rw [h1, Option.bind_some] at P1
    cases h2 : intD d1 with
    | none => rw [show intD (d1, d2).1 = none from h2] at P1; exact P1.elim
    | some m =>
      rw [show intD (d1, d2).1 = some m from h2, Option.bind_some] at P1
      cases h3 : intD d2 with
      | none => rw [show intD (d1, d2).2 = none from h3] at P1; exact P1.elim
      | some n =>
        rw [show intD (d1, d2).2 = some n from h3, Option.bind_some] at P1
        obtain ⟨v, w, e, hv, hw⟩ := two_rep r h1
        rw [int_rep d1 v m hv h2, int_rep d2 w n hw h3] at e
        by_cases c : (-(2 ^ 62) ≤ m ∧ m < 2 ^ 62) ∧ -(2 ^ 62) ≤ n ∧ n < 2 ^ 62
        · rw [when_t c] at P1
          exact ⟨m, n, e, ⟨c.1.1, c.1.2, c.2.1, c.2.2⟩, P1 _ θ1 H1 Gr.refl R1.plain trivial it_range⟩
        · unfold when_ at P1; rw [if_neg c] at P1; exact P1.elim
/-- zip of two lists, of two tuples -/
def zipD (xs ys : List D) : List D := List.zipWith (fun x y => .tup [x, y]) xs ys
def iZip2 (f : EA) : IE := fun sd μ => bE (f sd μ) fun ds μ1 => (two ds).bind fun d => (srcD μ1 d.1).bind fun z => (srcD μ1 d.2).bind fun w => if isTupD d.1 = isTupD d.2 then some (.ok (zipD z.1 w.1, fun μ' => z.2 μ' ∧ w.2 μ'), μ1) else none
theorem zip_get {xs ys : List D} {i : Nat} {d : D} (h : (zipD xs ys)[i]? = some d) : ∃ x y, xs[i]? = some x ∧ ys[i]? = some y ∧ d = .tup [x, y] := by
  unfold zipD at h
  rw [List.getElem?_zipWith] at h
  cases h1 : xs[i]? with
  | none => rw [h1] at h; cases h
  | some x =>
    cases h2 : ys[i]? with
    | none => rw [h1, h2] at h; cases h
    | some y => rw [h1, h2] at h; cases h; exact ⟨x, y, rfl, rfl, rfl⟩
theorem pair_rep {x y : D} {u v : V} {T : Addr} (R : RS K mg H0 av θ sd μ σ H) (rx : rep K mg H0 av θ H x u) (ry : rep K mg H0 av θ H y v) (hT : H T = none) :
    Exh H (upd H T (.tup [u, v])) ∧ rep K mg H0 av θ (upd H T (.tup [u, v])) (.tup [x, y]) (.ref T) :=
  ⟨Exh.new hT, T, [u, v], rfl, .inl ⟨R.notin hT, R.notav hT, .inl upd_same⟩, u, [v], rfl, rep.gr (Gr.of_ex (Exh.new hT)) _ _ rx, v, [], rfl, rep.gr (Gr.of_ex (Exh.new hT)) _ _ ry, rfl⟩
theorem it_zipL {a b : Addr} {xs ys : List D} {c1 c2 : Mem → Prop} (h1 : Later K mg H0 av SqL a xs c1 θ H) (h2 : Later K mg H0 av SqL b ys c2 θ H) : ItOk K mg H0 av (Itz K a b) (zipD xs ys) (fun μ => c1 μ ∧ c2 μ) θ H := fun i bv θ1 sd1 μ1 σ1 H1 g hb R hc => by
  obtain ⟨us, t1, r1⟩ := h1 bv θ1 sd1 μ1 σ1 H1 g hb R hc.1
  obtain ⟨vs, t2, r2⟩ := h2 bv θ1 sd1 μ1 σ1 H1 g hb R hc.2
  refine ⟨fun d hd => ?_, fun hi => ⟨us, vs, t1, t2, ?_⟩⟩
  · obtain ⟨x, y, hx, hy, rfl⟩ := zip_get hd
    obtain ⟨u, hu, ru⟩ := repL.get r1 hx
    obtain ⟨v, hv, rv⟩ := repL.get r2 hy
    refine ⟨⟨us, vs, u, v, t1, t2, hu, hv⟩, fun z H2 ⟨T, p, q, ez, hT, eH, k1, k2⟩ => ?_⟩
    have e1 := k1 us t1
    have e2 := k2 vs t2
    rw [hu] at e1
    rw [hv] at e2
    cases e1
    cases e2
    rw [ez, eH]
    exact pair_rep R ru rv hT
  · have : (zipD xs ys).length = min us.length vs.length := by rw [repL.length r1, repL.length r2]; simp [zipD]
    omega
theorem it_zipT {a b : Addr} {xs ys : List D} {c1 c2 : Mem → Prop} (h1 : Later K mg H0 av SqT a xs c1 θ H) (h2 : Later K mg H0 av SqT b ys c2 θ H) : ItOk K mg H0 av (RZ.ItzT K a b) (zipD xs ys) (fun μ => c1 μ ∧ c2 μ) θ H := fun i bv θ1 sd1 μ1 σ1 H1 g hb R hc => by
  obtain ⟨us, t1, r1⟩ := h1 bv θ1 sd1 μ1 σ1 H1 g hb R hc.1
  obtain ⟨vs, t2, r2⟩ := h2 bv θ1 sd1 μ1 σ1 H1 g hb R hc.2
  refine ⟨fun d hd => ?_, fun hi => ⟨us, vs, t1, t2, ?_⟩⟩
  · obtain ⟨x, y, hx, hy, rfl⟩ := zip_get hd
    obtain ⟨u, hu, ru⟩ := repL.get r1 hx
    obtain ⟨v, hv, rv⟩ := repL.get r2 hy
    refine ⟨⟨us, vs, u, v, t1, t2, hu, hv⟩, fun z H2 ⟨T, p, q, ez, hT, eH, k1, k2⟩ => ?_⟩
    have e1 := k1 us t1
    have e2 := k2 vs t2
    rw [hu] at e1
    rw [hv] at e2
    cases e1
    cases e2
    rw [ez, eH]
    exact pair_rep R ru rv hT
  · have : (zipD xs ys).length = min us.length vs.length := by rw [repL.length r1, repL.length r2]; simp [zipD]
    omega
end
end DL

/-! DL, part k: zip, stores by place, chains, truth, while. -/
namespace DL
open PySem PySem.Spec PyProof.Rows L2
section
variable {X : Cx} {K : PySem.W.Frag} {mg : Mg} {H0 : Hp} {W : WX} {av bv θ θ1 : List Addr} {sd : Sl} {μ : Mem} {σ : L2.St} {H H1 : Hp} {a b c e o i : Expr} {f fa fb fc fo fi : EE} {ga : EA} {t : ET} {fs : SS} {body : List Stmt} {pos : Pos}
theorem pid_zip {e e2 : Expr} {p tpos : Pos} {elts : List Expr} {kk : Nat} (hm : X.mg "zip" = none) (ha : PA X [e, e2] (tA X.K X.mg H0 W ga)) (hg : Gl X "zip" := by rfl)
    (hs : starEach [e, e2] X.env = (false, eval e X.env) :: starEach [e2] X.env := by rfl) (hpl : (backTo pos (starEach [e2] X.env)).any (·.1) = false := by rfl) :
    PI X (.Tuple elts kk tpos) (.Call (.Name "zip" p) [e, e2] [] pos) (tI X.K X.mg H0 W (iZip2 ga)) := by
  refine wkI (RZ.pi_zipA hg hm ha hs hpl) fun σ H R ⟨av, θ, sd, μ, Rs, P⟩ => ⟨av, θ, sd, μ, Rs, P.vals fun ds μ1 vs θ1 H1 nv g R1 r P1 => ?_⟩
  cases h1 : two ds with
  | none => rw [h1] at P1; exact P1.elim
  | some d =>
    obtain ⟨d1, d2⟩ := d
    rw [h1, Option.bind_some] at P1
    obtain ⟨v, w, e, hv, hw⟩ := two_rep r h1
    cases h2 : srcD μ1 d1 with
    | none => rw [show srcD μ1 (d1, d2).1 = none from h2] at P1; exact P1.elim
    | some z1 =>
      rw [show srcD μ1 (d1, d2).1 = some z1 from h2, Option.bind_some] at P1
      cases h3 : srcD μ1 d2 with
      | none => rw [show srcD μ1 (d1, d2).2 = none from h3] at P1; exact P1.elim
      | some z2 =>
        rw [show srcD μ1 (d1, d2).2 = some z2 from h3, Option.bind_some] at P1
        have P1 : PostI X.K X.mg H0 W av θ1 sd σ H1 R (if isTupD d1 = isTupD d2 then some (.ok (zipD z1.1 z2.1, fun μ' => z1.2 μ' ∧ z2.2 μ'), μ1) else none) := P1
        by_cases q : isTupD d1 = isTupD d2
        case neg => rw [if_neg q] at P1; exact P1.elim
        rw [if_pos q] at P1
        have R1 := R1.plain
        cases ht : isTupD d1 with
        | true =>
          obtain ⟨c1, a, xs, rfl, t1, l1⟩ := src_tup R1 hv h2 ht
          obtain ⟨c2, b, ys, rfl, t2, l2⟩ := src_tup R1 hw h3 (q ▸ ht)
          exact ⟨a, b, xs, ys, e, .inr ⟨t1, t2, P1 _ θ1 H1 Gr.refl R1 ⟨c1, c2⟩ (it_zipT l1 l2)⟩⟩
        | false =>
          obtain ⟨c1, a, xs, rfl, t1, l1⟩ := src_lst R1 hv h2 ht
          obtain ⟨c2, b, ys, rfl, t2, l2⟩ := src_lst R1 hw h3 (q ▸ ht)
          exact ⟨a, b, xs, ys, e, .inl ⟨t1, t2, P1 _ θ1 H1 Gr.refl R1 ⟨c1, c2⟩ (it_zipL l1 l2)⟩⟩

/-! ### xs[i] = v -/
def setM (μ : Mem) (x y d : D) : Option Mem := match x, y with
  | .ref n, .int k => match μ[n]? with
    | some (.lst ds) => if notNew d = true then (ixN ds.length k).map fun j => μ.set n (.lst (ds.set j d)) else none
    | _ => none
  | _, _ => none
theorem repL.set {d : D} {v : V} (rd : rep K mg H0 av θ H d v) : ∀ (j : Nat) {ds : List D} {xs : List V}, repL K mg H0 av θ H ds xs → repL K mg H0 av θ H (ds.set j d) (xs.set j v)
  | _, [], xs, h => by
    have h : xs = [] := h
    subst h
    exact rfl
  | 0, e :: ds, _, ⟨x, r, q, h, t⟩ => by subst q; exact ⟨v, r, rfl, rd, t⟩
  | j + 1, e :: ds, _, ⟨x, r, q, h, t⟩ => by subst q; exact ⟨x, r.set j v, rfl, h, repL.set rd j t⟩
theorem setM_ok {x y d : D} {u v w : V} {μ' : Mem} {Q : Hp → Prop} (R : RS K mg H0 av θ sd μ σ H) (rx : rep K mg H0 av θ H x u) (ry : rep K mg H0 av θ H y v) (rd : rep K mg H0 av θ H d w) (h : setM μ x y d = some μ')
    (q : ∀ H', Gr θ θ H H' → RS K mg H0 av θ sd μ' σ H' → Q H') : rSetL u v w H Q := by
  cases x with
  | ref n =>
    cases y with
    | int k =>
      obtain ⟨a, rfl, hn⟩ := rx
      have ry : v = .int k := ry
      subst ry
      have h : (match μ[n]? with
        | some (.lst ds) => if notNew d = true then (ixN ds.length k).map fun j => μ.set n (.lst (ds.set j d)) else none
        | _ => none) = some μ' := h
      cases hm : μ[n]? with
      | none => rw [hm] at h; cases h
      | some mo =>
        rw [hm] at h
        cases mo with
        | ins C fs => cases h
        | lst ds =>
          have h : (if notNew d = true then (ixN ds.length k).map fun j => μ.set n (.lst (ds.set j d)) else none) = some μ' := h
          by_cases hn0 : notNew d = true
          case neg => rw [if_neg hn0] at h; cases h
          rw [if_pos hn0] at h
          cases hj : ixN ds.length k with
          | none => rw [hj] at h; cases h
          | some j =>
            rw [hj] at h
            cases h
            obtain ⟨xs, t, r⟩ := R.mem n _ a hm hn
            refine ⟨a, xs, k, j, rfl, rfl, t, by rw [repL.length r]; exact hj, ?_⟩
            have ha : a ∈ θ := List.mem_of_getElem? hn
            have g0 : Gr θ θ H (upd H a (.lst (xs.set j w))) := ⟨List.prefix_refl _, fun b h m => absurd h m, fun b u m e => by rw [upd_ne (fun z => m (by rw [z]; exact ha))]; exact e⟩
            obtain ⟨g, R'⟩ := R.setO hn (mo := .lst (ds.set j d)) (o := .lst (xs.set j w)) ⟨_, upd_same, repL.gr g0 _ _ (repL.set rd j r)⟩
            exact q _ g R'
    | _ => cases h
  | _ => cases h
def gSub (fo fi : EE) : TgD := fun sd μ d => match fo sd μ with
  | some (.ok x, μ1) => match fi sd μ1 with
    | some (.ok y, μ2) => (setM μ2 x y d).map fun μ3 => (sd, μ3)
    | _ => none
  | _ => none
theorem pgd_sub (ho : PE X o (tE X.K X.mg H0 W fo)) (hi : PE X i (tE X.K X.mg H0 W fi))
    (ha : ∀ v, assign (.Subscript o i pos) X.env v = (do
      let ov ← holding [v] (eval o X.env)
      let iv ← holding [v, ov] (eval i X.env)
      standAt pos
      holding [v, ov, iv] (setItem ov iv v)
      release [v, ov, iv] []) := by intro _; rfl) : PG X (.Subscript o i pos) (tG X.K X.mg H0 [] (gSub fo fi)) := by
  refine wkG (pg_sub ho hi set_list ha) fun v σ H Q ⟨av, θ, sd, μ, d, R, r, P⟩ => ⟨av, θ, sd, μ, R, ?_⟩
  unfold gSub at P
  cases h1 : fo sd μ with
  | none => rw [h1] at P; exact P.elim
  | some z =>
    obtain ⟨rx, μ1⟩ := z
    rw [h1] at P
    cases rx with
    | error x => exact P.elim
    | ok x =>
      intro u θ1 H1 nv g1 R1 r1
      refine ⟨av, θ1, sd, μ1, R1.plain, ?_⟩
      simp only at P
      cases h2 : fi sd μ1 with
      | none => rw [h2] at P; exact P.elim
      | some z =>
        obtain ⟨ry, μ2⟩ := z
        rw [h2] at P
        cases ry with
        | error y => exact P.elim
        | ok y =>
          intro w θ2 H2 nw g2 R2 r2
          simp only at P
          cases h3 : setM μ2 x y d with
          | none => rw [h3] at P; exact P.elim
          | some μ3 =>
            rw [h3] at P
            have g12 := g1.trans g2
            exact setM_ok R2.plain (repG g2 r1.1) r2.1 (repG g12 r) h3 fun H' g R' => P σ θ2 H' (g12.trans g) R' rfl fun _ _ => rfl

/-! ### x op= e, xs[i] op= e -/
def sAug (j : Nat) (g : Mem → D → D → Option D) (f : EE) : SS := fun sd μ => match sd[j]? with
  | some (some x) => bS (f sd μ) sd fun y μ1 => match g μ1 x y with
    | some (.new _) => none
    | some d => some (.nx, sd.set j (some d), μ1)
    | none => none
  | _ => none
theorem ps_augN (j : Nat) {x : Str} {op : Operator} {g : Mem → D → D → Option D} {pos' : Pos} (hN : X.N.Nodup) (ho : OpD X (inplaceOp op) g) (he : PE X e (tE X.K X.mg H0 W f)) (hi : X.N[j]? = some x := by rfl) (hx : Loc X.env.scope x := by first | exact Or.inl rfl | exact Or.inr rfl)
    (hf : X.fn x = true ∨ X.env.scope.names.lookup x = some .local := by first | exact .inl rfl | exact .inr rfl) : PS X (.AugAssign (.Name x pos') op e pos) (tS X.K X.mg H0 W (sAug j g f)) := by
  obtain ⟨r, hr, k⟩ := ho H0
  refine wkS (ps_aug hN hi hx he hr hf) fun E σ H ⟨av, θ, sd, μ, R, P⟩ => ?_
  unfold sAug at P
  cases hj : sd[j]? with
  | none => rw [hj] at P; exact P.elim
  | some od =>
    cases od with
    | none => rw [hj] at P; exact P.elim
    | some d0 =>
      rw [hj] at P
      obtain ⟨v, hv, rv⟩ := R.sl.2 j d0 hj
      refine ⟨v, hv, av, θ, sd, μ, R, PostS.val R P fun y μ1 w θ1 H1 nv g1 R1 r1 P1 => ?_⟩
      cases hg : g μ1 d0 y with
      | none => simp only [hg] at P1; exact P1.elim
      | some d =>
        simp only [hg] at P1
        refine k av θ1 sd μ1 σ H1 d0 y v w d _ R1.plain (repG g1 rv) r1.1 hg fun z H' nw e R2 r2 => ?_
        have P1 : PostS X.K X.mg H0 W av θ1 H1 E (some (.nx, sd.set j (some d), μ1)) := by cases d <;> first | exact P1 | exact P1.elim
        exact P1 _ θ1 H' (Gr.of_ex e) (R2.plain.set j r2.1)
/-- a place from 0 on -/
def posI : D → Bool
  | .int i => decide (0 ≤ i)
  | _ => false
def sAugS (fo fi : EE) (g : Mem → D → D → Option D) (f : EE) : SS := fun sd μ => bS (fo sd μ) sd fun x μ1 => bS (fi sd μ1) sd fun y μ2 => match (if posI y = true then gIxL μ2 x y else none) with
  | none => none
  | some old => bS (f sd μ2) sd fun z μ3 => match g μ3 old z with
    | none => none
    | some d => (setM μ3 x y d).map fun μ4 => (.nx, sd, μ4)
def rGetL (K : PySem.W.Frag) : R2 := fun x y H Q => ∃ p xs i v, x = .ref p ∧ y = .int i ∧ SqL K H p xs ∧ L2.atI xs i = some v ∧ 0 ≤ i ∧ Q v H
theorem opr_getL : OpR X getItem (rGetL X.K) := by
  intro pins s σ H x y v u Q I rx ry h
  obtain ⟨p, xs, j, z, rfl, rfl, hq, he, h0, q⟩ := h
  cases rx
  obtain ⟨t, rfl⟩ := ry
  obtain ⟨ws, r, pl, hz⟩ := I.list hq
  obtain ⟨m, h1, h2, h3, h4, h5⟩ := atI_get he
  obtain ⟨w, ew, rw'⟩ := r.get h2
  have hl := r.length
  have hn := line63
  have hj : j.toNat = m := by
    rw [seqIndex_of h0 h5] at h1
    exact Option.some.inj h1
  exact wpAny_getItem_list pl.isList h0 (by omega) (by rw [hj]; simpa using ew) ⟨z, H, I, rw', q⟩
theorem rGet_ok {x y d : D} {u v : V} {Q : VK} (R : RS X.K X.mg H0 av θ sd μ σ H) (rx : rep X.K X.mg H0 av θ H x u) (ry : rep X.K X.mg H0 av θ H y v) (h : gIxL μ x y = some d) (h0 : ∀ i, y = .int i → 0 ≤ i) (q : ∀ w, rep X.K X.mg H0 av θ H d w → Q w H) : rGetL X.K u v H Q := by
  cases y with
  | int i =>
    have h : ((lsAny μ x).bind fun ds => itemD (L2.atI ds i)) = some d := h
    cases h1 : lsAny μ x with
    | none => rw [h1] at h; cases h
    | some ds =>
      rw [h1] at h
      obtain ⟨h2, hn⟩ := itemD_some h
      obtain ⟨a, xs, e, t, r⟩ := lsAny_at R rx h1
      obtain ⟨w, hw, rw'⟩ := repL.atI r h2
      exact ⟨a, xs, i, w, e, ry, t, hw, h0 i rfl, q w rw'⟩
  | _ => cases h
theorem ps_augI {op : Operator} {g : Mem → D → D → Option D} {tpos : Pos} (hop : OpD X (inplaceOp op) g) (ho : PE X o (tE X.K X.mg H0 W fo)) (hi : PE X i (tE X.K X.mg H0 W fi)) (he : PE X e (tE X.K X.mg H0 W f))
    (ha : ∀ ov iv new, augStore i ov iv new = (do holding [new, ov, iv] (setItem ov iv new); release [new, ov, iv] []; pure .next) := by intros; rfl) : PS X (.AugAssign (.Subscript o i tpos) op e pos) (tS X.K X.mg H0 W (sAugS fo fi g f)) := by
  obtain ⟨r, hr, k⟩ := hop H0
  refine wkS (ps_augS ho hi opr_getL he hr set_list ha) fun E σ H ⟨av, θ, sd, μ, R, P⟩ => ⟨av, θ, sd, μ, R, PostS.val R P fun x μ1 u θ1 H1 nv g1 R1 r1 P1 => ?_⟩
  refine ⟨av, θ1, sd, μ1, R1.plain, PostS.val R1.plain P1 fun y μ2 v θ2 H2 nw g2 R2 r2 P2 => ?_⟩
  have R2 := R2.plain
  cases h : (if posI y = true then gIxL μ2 x y else none) with
  | none => simp only [h] at P2; exact P2.elim
  | some old =>
    simp only [h] at P2
    by_cases hp : posI y = true
    case neg => rw [if_neg hp] at h; cases h
    rw [if_pos hp] at h
    refine rGet_ok R2 (repG g2 r1.1) r2.1 h (fun i e => by subst e; exact of_decide_eq_true hp) fun w rw' => ?_
    refine ⟨av, θ2, sd, μ2, R2, PostS.val R2 P2 fun z μ3 q θ3 H3 nu g3 R3 r3 P3 => ?_⟩
    have R3 := R3.plain
    cases hg : g μ3 old z with
    | none => simp only [hg] at P3; exact P3.elim
    | some d =>
      simp only [hg] at P3
      refine k av θ3 sd μ3 σ H3 old z w q d _ R3 (repG g3 rw') r3.1 hg fun nd H' nx ex R4 r4 => ?_
      cases hs : setM μ3 x y d with
      | none => rw [hs] at P3; exact P3.elim
      | some μ4 =>
        rw [hs] at P3
        have g4 := Gr.of_ex (θ := θ3) ex
        exact setM_ok R4.plain (repG g4 (repG g3 (repG g2 r1.1))) (repG g4 (repG g3 r2.1)) r4.1 hs fun H5 g5 R5 => P3 σ θ3 H5 (g4.trans g5) R5
end
end DL

/-! DL, part l: name = [..], truth, chains; a def by the head's facts; a law's end. -/
namespace DL
open PySem PySem.Spec PyProof.Rows L2
section
variable {X : Cx} {K : PySem.W.Frag} {mg : Mg} {H0 : Hp} {W : WX} {av bv θ θ1 : List Addr} {sd : Sl} {μ : Mem} {σ : L2.St} {H H1 : Hp} {a b c e o i : Expr} {f fa fb fc fo fi : EE} {ga : EA} {t : ET} {fs : SS} {body : List Stmt} {pos : Pos}
/-- y = [..] -/
theorem ps_assignLc (j : Nat) {y : Str} {py : Pos} {elt tg iter : Expr} {ifs : List Expr} {scope : Scope} {own : List (Str × Nat)} {spos : Pos} {fi : IE} {is : List Nat} {g : TgD} {q : ET} (hc : X.calm = true) (hN : X.N.Nodup) (hi : PI X tg iter (tI X.K X.mg H0 W fi)) (ok : BlkOk X.N X.env.scope scope own)
    (hg : ∀ (s : Shared) (H : Hp) (C : Addr) (cl : List (Str × Addr)) (fp : List Addr), PG (X.blk s H scope (compEnvC scope cl C X.env) fp) tg (tG X.K X.mg H0 is g)) (his : ∀ i ∈ is, i ∈ own.map (·.2))
    (ht : ∀ (s : Shared) (H : Hp) (C : Addr) (cl : List (Str × Addr)) (fp : List Addr), PTs (X.blk s H scope (compEnvC scope cl C X.env) fp) ifs (tT X.K X.mg H0 WF q))
    (he : ∀ (s : Shared) (H : Hp) (C : Addr) (cl : List (Str × Addr)) (fp : List Addr), PE (X.blk s H scope (compEnvC scope cl C X.env) fp) elt (tE X.K X.mg H0 WF f))
    (hsw : swapsWith (.ListComp elt [⟨tg, iter, ifs, 0⟩] scope pos) (some (.Name y py)) spos.line X.env = pure true) (hy : X.N[j]? = some y := by rfl) (hyl : X.env.scope.names.lookup y = some .local := by rfl) (hs : ∀ x, foldedSetIterable iter X.env x = pure x := by intro _; rfl) :
    PS X (.Assign [.Name y py] (.ListComp elt [⟨tg, iter, ifs, 0⟩] scope pos) spos) (tS X.K X.mg H0 W (sAsg (eOwn (eLc fi g q f (own.map (·.2)))) (gD j))) := by
  refine wkS (ps_setLc hc hN hy hyl hsw hi ok hg ht he hs) fun E σ H ⟨av, θ, sd, μ, R, P⟩ => lc_read his (own_read ⟨av, θ, sd, μ, R, P.val R fun x μ1 y θ1 H1 nv g R1 r P1 => ?_⟩)
  have P1 : PostS X.K X.mg H0 W av θ1 H1 E ((gD j sd μ1 x).map fun z => (.nx, z.1, z.2)) := P1
  have P2 : PostS X.K X.mg H0 W av θ1 H1 E (some (.nx, sd.set j (some x), μ1)) := by cases x <;> first | exact P1 | exact P1.elim
  exact P2 _ θ1 H1 Gr.refl (R1.plain.set j r.1)

/-! ### truth of any value -/
def truD (μ : Mem) : D → Option Bool
  | .non => some false
  | .bl b => some b
  | .int i => some (i != 0)
  | .str z => if z.length ≤ sizeLine then some ((z.length : Int) != 0) else none
  | d => (sqAny μ d).map fun ds => !ds.isEmpty
theorem repL.isEmpty {ds : List D} {xs : List V} (r : repL K mg H0 av θ H ds xs) : xs.isEmpty = ds.isEmpty := by
  cases ds with
  | nil =>
    have r : xs = [] := r
    subst r
    rfl
  | cons d ds => obtain ⟨x, rr, e, _, _⟩ := r; subst e; rfl
theorem tru_rep {d : D} {v : V} {k : Bool} (R : RS X.K X.mg H0 av θ sd μ σ H) (r : rep X.K X.mg H0 av θ H d v) (h : truD μ d = some k) : TruV X.K v H k := by
  have sq : ∀ {d : D}, rep X.K X.mg H0 av θ H d v → ((sqAny μ d).map fun ds => !ds.isEmpty) = some k → TruV X.K v H k := fun {d} r h => by
    cases q : sqAny μ d with
    | none => rw [q] at h; cases h
    | some ds =>
      rw [q] at h
      cases h
      obtain ⟨a, xs, rfl, t, r⟩ := sqAny_at R r q
      exact t.elim (fun t => .inl ⟨xs, t, by rw [repL.isEmpty r]⟩) (fun t => .inr (.inl ⟨xs, t, by rw [repL.isEmpty r]⟩))
  cases d with
  | non => cases h; cases r; rfl
  | bl b => cases h; cases r; rfl
  | int i => cases h; cases r; rfl
  | str z =>
    have h : (if z.length ≤ sizeLine then some ((z.length : Int) != 0) else none) = some k := h
    split at h
    · rename_i hz
      cases h
      cases r
      exact ⟨hz, rfl⟩
    · cases h
  | _ => exact sq r h
def qTru (f : EE) : ET := fun sd μ => bE (f sd μ) fun x μ1 => (truD μ1 x).map fun b => (.ok b, μ1)
theorem pq_tru (ha : PE X a (tE X.K X.mg H0 W fa)) (he : ∀ whole, isTrue a X.env whole = (do let v ← whole; standAt a.pos; holding [v] (truthy v)) := by intro _; rfl) : PT X a (tT X.K X.mg H0 W (qTru fa)) := by
  refine wkT (pt_truth ha he) fun σ H Q ⟨av, θ, sd, μ, R, P⟩ => ⟨av, θ, sd, μ, R, P.bind antiB fun x μ1 v θ1 H1 nv g1 R1 r1 P1 => ?_⟩
  cases h : truD μ1 x with
  | none => rw [h] at P1; exact P1.elim
  | some k =>
    rw [h] at P1
    exact ⟨k, tru_rep R1.plain r1.1 h, P1 k θ1 H1 [] Gr.refl R1.plain rfl⟩

/-! ### a < b < c -/
def eChain (g1 g2 : Mem → D → D → Option D) (fa fb fc : EE) : EE := fun sd μ => bE (fa sd μ) fun x μ1 => bE (fb sd μ1) fun y μ2 => (g1 μ2 x y).bind fun r => (boolD r).bind fun k => if k = true then bE (fc sd μ2) fun z μ3 => (g2 μ3 y z).map fun d => (.ok d, μ3) else some (.ok (.bl false), μ2)
theorem pd_chain {op op' : CmpOp} {g1 g2 : Mem → D → D → Option D} (ho : OpD X (compareOp op) g1) (ho' : OpD X (compareOp op') g2) (ha : PE X a (tE X.K X.mg H0 W fa)) (hb : PE X b (tE X.K X.mg H0 W fb)) (hc : PE X c (tE X.K X.mg H0 W fc))
    (hm : lastMarks [op, op'] [b, c] = false := by with_unfolding_all rfl) : PE X (.Compare a [op, op'] [b, c] pos) (tE X.K X.mg H0 W (eChain g1 g2 fa fb fc)) := by
  obtain ⟨r, hr, k⟩ := ho H0
  obtain ⟨r', hr', k'⟩ := ho' H0
  refine wkE (pe_chain hr hr' ha hb hc hm) fun σ H Q ⟨av, θ, sd, μ, R, P⟩ => ⟨av, θ, sd, μ, R, P.bind antiD fun x μ1 v θ1 H1 nv g1' R1 r1 P1 => ?_⟩
  refine ⟨av, θ1, sd, μ1, R1.plain, P1.bind antiD fun y μ2 w θ2 H2 nw g2' R2 r2 P2 => ?_⟩
  cases h : g1 μ2 x y with
  | none => rw [h] at P2; exact P2.elim
  | some d =>
    rw [h] at P2
    refine k av θ2 sd μ2 σ H2 x y v w d _ R2.plain (repG g2' r1.1) r2.1 h fun u H' nu e R3 r3 => ?_
    cases d with
    | bl q =>
      refine ⟨q, r3.1, ?_⟩
      have P2 : Post X.K X.mg H0 W (relD X.K X.mg H0) av θ2 sd σ H2 Q (if q = true then bE (fc sd μ2) fun z μ3 => (g2 μ3 y z).map fun d => (.ok d, μ3) else some (.ok (.bl false), μ2)) := P2
      have P3 := P2.rebase antiD (Gr.of_ex e) R3.plain
      cases q with
      | false => exact P3 (.bl false) θ2 H' [] Gr.refl R3.plain ⟨rfl, fun _ e => by cases e⟩
      | true =>
        refine ⟨av, θ2, sd, μ2, R3.plain, P3.bind antiD fun z μ4 w' θ4 H4 nw4 g4 R4 r4 P4 => ?_⟩
        obtain ⟨d, hd, qq⟩ := P4.ask
        exact k' av θ4 sd μ4 σ H4 y z w w' d Q R4.plain (repG ((Gr.of_ex e).trans g4) r2.1) r4.1 hd qq
    | _ => exact P2.elim
theorem pq_chain {op op' : CmpOp} {g1 g2 : Mem → D → D → Option D} (ho : OpD X (compareOp op) g1) (ho' : OpD X (compareOp op') g2) (ha : PE X a (tE X.K X.mg H0 W fa)) (hb : PE X b (tE X.K X.mg H0 W fb)) (hc : PE X c (tE X.K X.mg H0 W fc))
    (hm : lastMarks [op, op'] [b, c] = false := by with_unfolding_all rfl) : PT X (.Compare a [op, op'] [b, c] pos) (tT X.K X.mg H0 W (qB (eChain g1 g2 fa fb fc))) := by
  obtain ⟨r, hr, k⟩ := ho H0
  obtain ⟨r', hr', k'⟩ := ho' H0
  refine wkT (pt_chain hr hr' ha hb hc hm) fun σ H Q ⟨av, θ, sd, μ, R, P⟩ => ?_
  have bb : ∀ {α β γ : Type} (m : R3 α) (k : α → Mem → R3 β) (j : β → Mem → R3 γ), bE (bE m k) j = bE m fun x μ => bE (k x μ) j := by
    intro α β γ m k j
    cases m with
    | none => rfl
    | some z => obtain ⟨r, m⟩ := z; cases r <;> rfl
  unfold qB eChain at P
  rw [bb] at P
  refine ⟨av, θ, sd, μ, R, P.bind antiB fun x μ1 v θ1 H1 nv g1' R1 r1 P1 => ?_⟩
  rw [bb] at P1
  refine ⟨av, θ1, sd, μ1, R1.plain, P1.bind antiB fun y μ2 w θ2 H2 nw g2' R2 r2 P2 => ?_⟩
  cases h : g1 μ2 x y with
  | none => rw [h] at P2; exact P2.elim
  | some d =>
    rw [h] at P2
    refine k av θ2 sd μ2 σ H2 x y v w d _ R2.plain (repG g2' r1.1) r2.1 h fun u H' nu e R3 r3 => ?_
    cases d with
    | bl q =>
      refine ⟨q, r3.1, ?_⟩
      cases q with
      | false =>
        have P2 : Post X.K X.mg H0 W relB av θ2 sd σ H2 Q (some (.ok false, μ2)) := P2
        exact ⟨false, rfl, P2 false θ2 H' [] (Gr.of_ex e) R3.plain rfl⟩
      | true =>
        have P2 : Post X.K X.mg H0 W relB av θ2 sd σ H2 Q (bE (bE (fc sd μ2) fun z μ3 => (g2 μ3 y z).map fun d => (.ok d, μ3)) fun x μ1 => match x with | .bl b => some (.ok b, μ1) | _ => none) := P2
        rw [bb] at P2
        have P3 := P2.rebase antiB (Gr.of_ex e) R3.plain
        refine ⟨av, θ2, sd, μ2, R3.plain, P3.bind antiB fun z μ4 w' θ4 H4 nw4 g4 R4 r4 P4 => ?_⟩
        cases h' : g2 μ4 y z with
        | none => rw [h'] at P4; exact P4.elim
        | some d =>
          rw [h'] at P4
          refine k' av θ4 sd μ4 σ H4 y z w w' d _ R4.plain (repG ((Gr.of_ex e).trans g4) r2.1) r4.1 h' fun u5 H5 nu5 e5 R5 r5 => ?_
          cases d with
          | bl q5 => exact ⟨q5, r5.1, P4 q5 θ4 H5 [] (Gr.of_ex e5) R5.plain rfl⟩
          | _ => exact P4.elim
    | _ => exact P2.elim
end
end DL

/-! DL, part m: a def by the head's facts; a law's end. -/
namespace DL
open PySem PySem.Spec PyProof.Rows L2
theorem un65 {k : Nat} {A : Around} (r : Room k A) : A.units + 65 < cLine := by have := r.un; omega
section
variable {P : Program} {w : World} {K : PySem.W.Frag} {mg : Mg} {base : Heap}
abbrev FnP (K : PySem.W.Frag) (x : Str) (st : Stmt) (f : Addr) (fd : FuncData) : Prop := FunD K x x (defArgs st) (defBody st) (defScope st) [] [] f fd
/-- the body's derivation, ready at any frame -/
def Body (P : Program) (w : World) (K : PySem.W.Frag) (mg : Mg) (base : Heap) (k : Nat) (N : List Str) (qual : Str) (st : Stmt) (body : SS) : Prop :=
  ∀ (f : Addr) (cdv : Value) (A : Around) (outer : List Env) (s : Shared) (H : Hp) (E : XK), Room k (A.deeper (envOfC qual (defScope st) s.heap.objs.size f cdv)) →
    PSs (cxOf (L2.CX P w) P w K mg base N qual (defScope st) f cdv A outer s H E) (defBody st) (tS K mg H (fun cls d _ H' => E cls d H') body)
theorem funD_ok {x : Str} {st : Stmt} {f : Addr} {fd : FuncData} {N ps : List Str} {k : Nat} {body : SS} (F : FnP K x st f fd) (S : FnScope N ps (defScope st)) (hbody : Body P w K mg base k N x st body) :
    FnOk P w K mg base (L2.CX P w) (k + 1) f fd ps (spD K mg ps.length (runF N.length body)) := by
  obtain ⟨oc, od, dV, kV, doc, pm, an, cdv, ct, osl, rfl, lk, hcd, hD, _⟩ := F.ex
  rcases hD with ⟨_, rfl⟩ | ⟨e, _⟩
  · exact def_ok ⟨⟨oc, od, kV, doc, pm, an, cdv, ct, osl, rfl, lk, hcd⟩, F.kp⟩ S fun cdv A outer s H E hr => hbody f cdv A outer s H E hr
  · exact absurd rfl e
theorem fnD_mk {x : Str} {st : Stmt} {f : Addr} {fd : FuncData} {N ps : List Str} {k np : Nat} {body : SS} (F : FnP K x st f fd) (hmg : mg x = some (.ref f)) (S : FnScope N ps (defScope st)) (hbody : Body P w K mg base k N x st body)
    (hb : Binds K fd ps []) (hn : ps.length = np) : FnD P w K mg base x (k + 1) np (runF N.length body) := by
  subst hn
  exact ⟨f, fd, ps, hmg, F.kp, hb, rfl, funD_ok F S hbody⟩
/-- nothing is promised: a def at depth 0 -/
theorem fnD_none {x : Str} {st : Stmt} {f : Addr} {fd : FuncData} {N ps : List Str} {k np : Nat} (F : FnP K x st f fd) (hmg : mg x = some (.ref f)) (S : FnScope N ps (defScope st)) 
    (hb : Binds K fd ps []) (hn : ps.length = np) : FnD P w K mg base x (k + 1) np (fun _ => none) := by
  subst hn
  refine ⟨f, fd, ps, hmg, F.kp, hb, rfl, FunD.ok (CX := L2.CX P w) F S (fun vs H Q E h => ?_) (fun cdv A outer s H vs Q E hr h => ?_)⟩
  · obtain ⟨_, _, _, _, _, h⟩ := h
    exact h.elim
  · obtain ⟨_, _, _, _, _, h⟩ := h
    exact h.elim
end
/-- a law's script, its end -/
theorem law_sp {K : PySem.W.Frag} {mg : Mg} {H : Hp} {a : Addr} {ns : List Int} {m : Mir} (hS : SqL K H a (ns.map V.int)) (h : m [.lck (ns.map D.int)] = some (.ok (.bl true))) :
    spD K mg 1 m [.ref a] H (fun v _ => v = .bl true) fun _ _ _ => False := by
  have key : ∀ ns : List Int, repL K mg H [] [] H (ns.map D.int) (ns.map V.int) := fun ns => by
    induction ns with
    | nil => rfl
    | cons n ns ih => exact ⟨_, _, rfl, rfl, ih⟩
  refine ⟨[], [.lck (ns.map D.int)], fun a h => by simp at h, ⟨_, _, rfl, ⟨a, _, rfl, hS, key ns⟩, rfl⟩, rfl, ?_⟩
  rw [h]
  exact fun v H' _ r => r.2.1
theorem none_out {P : Program} {w : World} (H : Hp) (s : Shared) (e : Value) (s' : Shared) : L2.CX P w [] H s (fun _ _ _ => False) e s' → False := fun h => by
  obtain ⟨_, _, _, _, _, _, _, _, _, _, _, _, z⟩ := h
  exact z
/-- a law whose defs may let exceptions out: its end -/
theorem law_end {l : PySem.W.OpenLaw} {n lv : Nat} {qq : Program} {lo : List Str} {P1 : (Str → Option Value) → Heap → Prop} {P2 : World → Heap → Prop} {dr : DefRec} {par : Str}
    (h1 : l.most = some n) (h2 : n ≤ sizeLine) (h3 : dr.params.defaults = []) (h4 : Room lv callerA)
    (get : ∀ (u : World) (gl : Str → Option Value) (ad : Addr) (hp : Heap), P2 u hp → hp.Ns mainGlobals gl → gl dr.name = some (.ref ad) →
      ∃ (fr : PySem.W.Frag) (data : FuncData) (m : Mir), fr.In hp ∧ (∀ (sh : Shared) (z : Value), BindsTo sh data ⟨[z], []⟩ [(par, z)]) ∧
        (∀ ns : List Int, ns.length ≤ n → m [.lck (ns.map D.int)] = some (.ok (.bl true))) ∧
        ∀ bs : Heap, fr.In bs → bs.Ns mainGlobals gl → FnOk l.prog u fr gl bs (L2.CX l.prog u) lv ad data [par] (spD fr gl 1 m)) :
    PySem.W.WalkO qq lo P1 P2 l.row.toRowW dr [] (fun f vs => PySem.call f vs) := by
  refine Att.attach_call h1 h3 fun w s₀ s₁ mg mb fa o pm cd doc a vs ns G Y ho hd hcd hmg hobj hints hlen hg => ?_
  obtain ⟨K, fd, m, KX, hb, hm, hF⟩ := get w mg fa _ Y G.T.g hmg
  refine law_call KX G.T.g G.T.b G.T.builtins G.T.nolimit hg hobj hints (Nat.le_trans hlen h2) h4 hF hb (fun H hO hS => ?_) fun H e s' h => none_out H s₁ e s' h
  exact law_sp hS (hm ns hlen)
end DL

/-! DL, part n: the mirrors worked out (no program in sight). -/
namespace DL
open PySem PySem.Spec PyProof.Rows L2
theorem le_size {n : Nat} (h : n ≤ 100000) : n ≤ sizeLine := Nat.le_trans h (by decide)
@[simp] theorem runF_def (n : Nat) (b : SS) (ds : List D) : runF n b ds = match b (ds.map some ++ List.replicate (n - ds.length) none) [] with
  | some (.ret d, _, _) => some (.ok d)
  | some (.nx, _, _) => some (.ok .non)
  | some (.exc e, _, _) => some (.error e)
  | _ => none := rfl
/-! ### comprehensions -/
theorem lcF_eq {α : Type} {chk : Mem → Prop} {t : TgD} {q : ET} {f : EE} {sd : Sl} {μ : Mem} {e : α → D} {b : α → Bool} {g : α → D} (hc : chk μ) : ∀ l : List α,
    (∀ a ∈ l, ∃ sd1, t sd μ (e a) = some (sd1, μ) ∧ q sd1 μ = some (.ok (b a), μ) ∧ (b a = true → f sd1 μ = some (.ok (g a), μ) ∧ notNew (g a) = true)) →
    lcF chk t q f sd (l.map e) μ = some (.ok ((l.filter b).map g), μ)
  | [], _ => rfl
  | a :: l, h => by
    obtain ⟨sd1, h1, h2, h3⟩ := h a List.mem_cons_self
    have ih := lcF_eq hc l fun x hx => h x (List.mem_cons_of_mem _ hx)
    rw [List.map_cons]
    unfold lcF
    rw [h1]
    simp only
    rw [h2]
    cases hb : b a with
    | false => simp only [hc, if_true]; rw [ih]; simp [hb]
    | true =>
      obtain ⟨h4, h5⟩ := h3 hb
      simp only
      rw [h4]
      simp only [h5, hc, and_self, if_true]
      rw [ih]
      simp [hb]
theorem eLc_eq {α : Type} {it : IE} {chk : Mem → Prop} {t : TgD} {q : ET} {f : EE} {vs : List Nat} {sd : Sl} {μ : Mem} {ds : List D} (l : List α) (e : α → D) (b : α → Bool) (g : α → D) (hit : it sd μ = some (.ok (ds, chk), μ)) (hds : ds = l.map e)
    (hl : l.length ≤ 100000) (hc : chk μ) (h : ∀ a ∈ l, ∃ sd1, t (wipeD sd vs) μ (e a) = some (sd1, μ) ∧ q sd1 μ = some (.ok (b a), μ) ∧ (b a = true → f sd1 μ = some (.ok (g a), μ) ∧ notNew (g a) = true)) :
    eLc it t q f vs sd μ = some (.ok (.new ((l.filter b).map g)), μ) := by
  unfold eLc
  rw [hit, hds]
  simp only
  rw [if_pos (by rw [List.length_map]; exact le_size hl), lcF_eq hc l h]
  rfl
/-- no test -/
theorem eLc_all {α : Type} {it : IE} {chk : Mem → Prop} {t : TgD} {f : EE} {vs : List Nat} {sd : Sl} {μ : Mem} {ds : List D} (l : List α) (e g : α → D) (hit : it sd μ = some (.ok (ds, chk), μ)) (hds : ds = l.map e)
    (hl : l.length ≤ 100000) (hc : chk μ) (h : ∀ a ∈ l, ∃ sd1, t (wipeD sd vs) μ (e a) = some (sd1, μ) ∧ f sd1 μ = some (.ok (g a), μ) ∧ notNew (g a) = true) :
    eLc it t qYes f vs sd μ = some (.ok (.new (l.map g)), μ) := by
  have z := eLc_eq (q := qYes) (f := f) l e (fun _ => true) g hit hds hl hc fun a ha => let ⟨sd1, h1, h2⟩ := h a ha; ⟨sd1, h1, rfl, fun _ => h2⟩
  rw [z, List.filter_eq_self.mpr (fun _ _ => rfl)]
/-! ### loops -/
/-- a loop whose body goes on, whatever it does, or hands back -/
theorem loop_inv {α : Type} {chk : Mem → Prop} {t : TgD} {b : SS} (e : α → D) (I : List α → Sl → Mem → Prop) (R : Flow → Prop) : ∀ (l done : List α) (sd : Sl) (μ : Mem), I done sd μ →
    (∀ done x rest sd μ, l = done ++ x :: rest → I done sd μ → False) ∨ True → 
    (∀ (dn : List α) (x : α) (sd : Sl) (μ : Mem), x ∈ l → I dn sd μ → ∃ sd1 μ1, t sd μ (e x) = some (sd1, μ1) ∧
      ((∃ sd2 μ2, b sd1 μ1 = some (.nx, sd2, μ2) ∧ chk μ2 ∧ I (dn ++ [x]) sd2 μ2) ∨ ∃ d sd2 μ2, b sd1 μ1 = some (.ret d, sd2, μ2) ∧ R (.ret d))) →
    (∃ sd2 μ2, loopF chk t b (l.map e) sd μ = some (.nx, sd2, μ2) ∧ I (done ++ l) sd2 μ2) ∨ ∃ d sd2 μ2, loopF chk t b (l.map e) sd μ = some (.ret d, sd2, μ2) ∧ R (.ret d)
  | [], done, sd, μ, h0, _, _ => .inl ⟨sd, μ, rfl, by rw [List.append_nil]; exact h0⟩
  | x :: l, done, sd, μ, h0, _, h => by
    obtain ⟨sd1, μ1, h1, h2⟩ := h done x sd μ List.mem_cons_self h0
    rw [List.map_cons]
    unfold loopF
    rw [h1]
    simp only
    rcases h2 with ⟨sd2, μ2, h3, h4, h5⟩ | ⟨d, sd2, μ2, h3, h4⟩
    · rw [h3]
      simp only [h4, if_true]
      have ih := loop_inv e I R l (done ++ [x]) sd2 μ2 h5 (.inr trivial) fun dn y sd μ hy => h dn y sd μ (List.mem_cons_of_mem _ hy)
      rw [List.append_assoc, List.singleton_append] at ih
      exact ih
    · rw [h3]
      exact .inr ⟨d, sd2, μ2, rfl, h4⟩
/-- a loop that always goes on -/
theorem loop_nx {α : Type} {chk : Mem → Prop} {t : TgD} {b : SS} (e : α → D) (I : List α → Sl → Mem → Prop) : ∀ (l done : List α) (sd : Sl) (μ : Mem), I done sd μ →
    (∀ (dn : List α) (x : α) (rest : List α) (sd : Sl) (μ : Mem), done ++ l = dn ++ x :: rest → I dn sd μ → ∃ sd1 μ1, t sd μ (e x) = some (sd1, μ1) ∧ ∃ sd2 μ2, b sd1 μ1 = some (.nx, sd2, μ2) ∧ chk μ2 ∧ I (dn ++ [x]) sd2 μ2) →
    ∃ sd2 μ2, loopF chk t b (l.map e) sd μ = some (.nx, sd2, μ2) ∧ I (done ++ l) sd2 μ2
  | [], done, sd, μ, h0, _ => ⟨sd, μ, rfl, by rw [List.append_nil]; exact h0⟩
  | x :: l, done, sd, μ, h0, h => by
    obtain ⟨sd1, μ1, h1, sd2, μ2, h3, h4, h5⟩ := h done x l sd μ rfl h0
    rw [List.map_cons]
    unfold loopF
    rw [h1]
    simp only
    rw [h3]
    simp only [h4, if_true]
    have ih := loop_nx e I l (done ++ [x]) sd2 μ2 h5 fun dn y rest sd μ hy => h dn y rest sd μ (by rw [← hy, List.append_assoc, List.singleton_append])
    rw [List.append_assoc, List.singleton_append] at ih
    exact ih
theorem sFor_of {it : IE} {t : TgD} {b : SS} {sd : Sl} {μ : Mem} {ds : List D} {chk : Mem → Prop} (h : it sd μ = some (.ok (ds, chk), μ)) : sFor it t b sd μ = loopF chk t b ds sd μ := by unfold sFor; rw [h]
theorem sSeq_of {f g : SS} {sd sd1 : Sl} {μ μ1 : Mem} (h : f sd μ = some (.nx, sd1, μ1)) : sSeq f g sd μ = g sd1 μ1 := by unfold sSeq; rw [h]
theorem sSeq_ret {f g : SS} {sd sd1 : Sl} {μ μ1 : Mem} {d : D} (h : f sd μ = some (.ret d, sd1, μ1)) : sSeq f g sd μ = some (.ret d, sd1, μ1) := by unfold sSeq; rw [h]
theorem sIf_t {t : ET} {a b : SS} {sd : Sl} {μ μ1 : Mem} {r : SR} (h : t sd μ = some (.ok true, μ1)) (q : a sd μ1 = r) : sIf t a b sd μ = r := by unfold sIf; rw [h]; exact q
theorem sIf_f {t : ET} {a b : SS} {sd : Sl} {μ μ1 : Mem} {r : SR} (h : t sd μ = some (.ok false, μ1)) (q : b sd μ1 = r) : sIf t a b sd μ = r := by unfold sIf; rw [h]; exact q
/-! ### zip, range -/
theorem range0 (n : Nat) : rangeD 0 n = (List.range n).map fun i : Nat => D.int i := by unfold rangeD; simp
theorem zip_map {α β : Type} (e : α → D) (e' : β → D) : ∀ (xs : List α) (ys : List β), zipD (xs.map e) (ys.map e') = (xs.zip ys).map fun p => D.tup [e p.1, e' p.2] := by
  intro xs
  induction xs with
  | nil => intro ys; rfl
  | cons x xs ih =>
    intro ys
    cases ys with
    | nil => rfl
    | cons y ys =>
      show D.tup [e x, e' y] :: zipD (xs.map e) (ys.map e') = _
      rw [ih ys]
      rfl
/-! ### == of plain things -/
theorem eq_of {μ : Mem} {n : Bool} {x y : D} {p q : PyData} (h1 : toPm μ x = some p) (h2 : toPm μ y = some q) (s1 : SeqAt.shaped p = true) (s2 : SeqAt.shaped q = true) : gEqD n μ x y = some (.bl (if n then !PyData.eqv p q else PyData.eqv p q)) := by
  unfold gEqD
  rw [h1, h2]
  simp [s1, s2]
theorem sh_int (i : Int) : SeqAt.shaped (.int i) = true := by simp [SeqAt.shaped, PyData.canLay0, PyData.depth]
@[simp] theorem eq_int (μ : Mem) (n : Bool) (i j : Int) : gEqD n μ (.int i) (.int j) = some (.bl (if n then !decide (i = j) else decide (i = j))) := by
  rw [eq_of (p := .int i) (q := .int j) rfl rfl (sh_int i) (sh_int j)]
  simp [PyData.eqv]
  rfl
@[simp] theorem eq_bl (μ : Mem) (n : Bool) (i j : Bool) : gEqD n μ (.bl i) (.bl j) = some (.bl (if n then !decide (i = j) else decide (i = j))) := by
  cases i <;> cases j <;> cases n <;> rfl
theorem gIx_int {μ : Mem} {x : D} {ds : List D} {i : Int} {d : D} (hx : x = .tup ds ∨ lsAny μ x = some ds) (hi : L2.atI ds i = some d) (hn : ∀ es, d ≠ .new es) : gIx μ x (.int i) = some d := by
  have hd : itemD (L2.atI ds i) = some d := by
    rw [hi]
    cases d <;> first | rfl | exact absurd rfl (hn _)
  rcases hx with rfl | hx
  · show (itemD (L2.atI ds i)).or _ = _
    rw [hd]
    rfl
  · unfold gIx
    have h1 : gIxL μ x (.int i) = some d := by
      show ((lsAny μ x).bind fun ds => itemD (L2.atI ds i)) = some d
      rw [hx]
      exact hd
    have h2 : gIxT μ x (.int i) = none := by
      cases x <;> first | rfl | (exact absurd hx (by simp [lsAny, isLst]))
    rw [h2, h1]
    rfl
end DL
namespace DL
open PySem PySem.Spec PyProof.Rows L2
@[simp] theorem sSeq_e (f g : SS) (sd : Sl) (μ : Mem) : sSeq f g sd μ = match f sd μ with
  | some (.nx, sd1, μ1) => g sd1 μ1
  | r => r := rfl
@[simp] theorem sSkip_e (sd : Sl) (μ : Mem) : sSkip sd μ = some (.nx, sd, μ) := rfl
@[simp] theorem sBreak_e (sd : Sl) (μ : Mem) : sBreak sd μ = some (.brk, sd, μ) := rfl
@[simp] theorem sCont_e (sd : Sl) (μ : Mem) : sCont sd μ = some (.ct, sd, μ) := rfl
@[simp] theorem sIf_e (t : ET) (a b : SS) (sd : Sl) (μ : Mem) : sIf t a b sd μ = match t sd μ with
  | none => none
  | some (.error e, μ1) => some (.exc e, sd, μ1)
  | some (.ok true, μ1) => a sd μ1
  | some (.ok false, μ1) => b sd μ1 := rfl
@[simp] theorem sAsg_e (f : EE) (t : TgD) (sd : Sl) (μ : Mem) : sAsg f t sd μ = match f sd μ with
  | none => none
  | some (.error e, μ1) => some (.exc e, sd, μ1)
  | some (.ok x, μ1) => match t sd μ1 x with
    | none => none
    | some (sd2, μ2) => some (.nx, sd2, μ2) := by
  unfold sAsg bS
  rcases f sd μ with _ | ⟨_ | x, m⟩ <;> try rfl
  dsimp only
  cases t sd m x <;> rfl
@[simp] theorem sRet_e (f : EE) (sd : Sl) (μ : Mem) : sRet f sd μ = match f sd μ with
  | none => none
  | some (.error e, μ1) => some (.exc e, sd, μ1)
  | some (.ok x, μ1) => match outD μ1 x with
    | none => none
    | some d => some (.ret d, sd, μ1) := by
  unfold sRet bS
  rcases f sd μ with _ | ⟨_ | x, m⟩ <;> try rfl
  dsimp only
  cases outD m x <;> rfl
@[simp] theorem sDrop_e (f : EE) (sd : Sl) (μ : Mem) : sDrop f sd μ = match f sd μ with
  | none => none
  | some (.error e, μ1) => some (.exc e, sd, μ1)
  | some (.ok x, μ1) => some (.nx, sd, μ1) := rfl
@[simp] theorem eC_e (d : D) (sd : Sl) (μ : Mem) : eC d sd μ = some (.ok d, μ) := rfl
@[simp] theorem eV_e (i : Nat) (sd : Sl) (μ : Mem) : eV i sd μ = match sd[i]? with
  | some (some (.new _)) => none
  | some (some d) => some (.ok d, μ)
  | _ => none := rfl
@[simp] theorem eOwn_e (f : EE) (sd : Sl) (μ : Mem) : eOwn f sd μ = match f sd μ with
  | some (.ok (.new ds), μ1) => some (.ok (.ref μ1.length), μ1 ++ [.lst ds])
  | r => r := rfl
@[simp] theorem eBin_e (g : Mem → D → D → Option D) (fa fb : EE) (sd : Sl) (μ : Mem) : eBin g fa fb sd μ = match fa sd μ with
  | none => none
  | some (.error e, μ1) => some (.error e, μ1)
  | some (.ok x, μ1) => match fb sd μ1 with
    | none => none
    | some (.error e, μ2) => some (.error e, μ2)
    | some (.ok y, μ2) => match g μ2 x y with
      | none => none
      | some d => some (.ok d, μ2) := by
  unfold eBin bE
  rcases fa sd μ with _ | ⟨_ | x, m⟩ <;> try rfl
  dsimp only
  rcases fb sd m with _ | ⟨_ | y, m2⟩ <;> try rfl
  dsimp only
  cases g m2 x y <;> rfl
@[simp] theorem eUn_e (g : Mem → D → Option D) (fa : EE) (sd : Sl) (μ : Mem) : eUn g fa sd μ = match fa sd μ with
  | none => none
  | some (.error e, μ1) => some (.error e, μ1)
  | some (.ok x, μ1) => match g μ1 x with
    | none => none
    | some d => some (.ok d, μ1) := by
  unfold eUn bE
  rcases fa sd μ with _ | ⟨_ | x, m⟩ <;> try rfl
  dsimp only
  cases g m x <;> rfl
@[simp] theorem eNil_e (sd : Sl) (μ : Mem) : eNil sd μ = some (.ok [], μ) := rfl
@[simp] theorem eCons_e (f : EE) (g : EA) (sd : Sl) (μ : Mem) : eCons f g sd μ = match f sd μ with
  | none => none
  | some (.error e, μ1) => some (.error e, μ1)
  | some (.ok x, μ1) => match g sd μ1 with
    | none => none
    | some (.error e, μ2) => some (.error e, μ2)
    | some (.ok ds, μ2) => some (.ok (x :: ds), μ2) := by
  unfold eCons bE
  rcases f sd μ with _ | ⟨_ | x, m⟩ <;> try rfl
  dsimp only
  rcases g sd m with _ | ⟨_ | y, m2⟩ <;> rfl
@[simp] theorem eTup_e (g : EA) (sd : Sl) (μ : Mem) : eTup g sd μ = match g sd μ with
  | none => none
  | some (.error e, μ1) => some (.error e, μ1)
  | some (.ok ds, μ1) => if ds.length ≤ sizeLine then some (.ok (.tup ds), μ1) else none := by
  unfold eTup bE
  rcases g sd μ with _ | ⟨_ | x, m⟩ <;> rfl
@[simp] theorem eLst_e (g : EA) (sd : Sl) (μ : Mem) : eLst g sd μ = match g sd μ with
  | none => none
  | some (.error e, μ1) => some (.error e, μ1)
  | some (.ok ds, μ1) => if ds.length ≤ sizeLine then some (.ok (.new ds), μ1) else none := by
  unfold eLst bE
  rcases g sd μ with _ | ⟨_ | x, m⟩ <;> rfl
@[simp] theorem eCB_e (gg : Mem → List D → Option D) (g : EA) (sd : Sl) (μ : Mem) : eCB gg g sd μ = match g sd μ with
  | none => none
  | some (.error e, μ1) => some (.error e, μ1)
  | some (.ok ds, μ1) => match gg μ1 ds with
    | none => none
    | some d => some (.ok d, μ1) := by
  unfold eCB bE
  rcases g sd μ with _ | ⟨_ | x, m⟩ <;> try rfl
  dsimp only
  cases gg m x <;> rfl
@[simp] theorem eIf_e (t : ET) (fa fb : EE) (sd : Sl) (μ : Mem) : eIf t fa fb sd μ = match t sd μ with
  | none => none
  | some (.error e, μ1) => some (.error e, μ1)
  | some (.ok true, μ1) => fa sd μ1
  | some (.ok false, μ1) => fb sd μ1 := by
  unfold eIf bE
  rcases t sd μ with _ | ⟨_ | x, m⟩ <;> try rfl
  cases x <;> rfl
@[simp] theorem eAnd_e (fa fb : EE) (sd : Sl) (μ : Mem) : eAnd fa fb sd μ = match fa sd μ with
  | some (.ok (.bl true), μ1) => fb sd μ1
  | some (.ok (.bl false), μ1) => some (.ok (.bl false), μ1)
  | some (.error e, μ1) => some (.error e, μ1)
  | _ => none := by
  unfold eAnd bE
  rcases fa sd μ with _ | ⟨_ | x, m⟩ <;> try rfl
  cases x <;> try rfl
  rename_i b; cases b <;> rfl
@[simp] theorem eOr_e (fa fb : EE) (sd : Sl) (μ : Mem) : eOr fa fb sd μ = match fa sd μ with
  | some (.ok (.bl true), μ1) => some (.ok (.bl true), μ1)
  | some (.ok (.bl false), μ1) => fb sd μ1
  | some (.error e, μ1) => some (.error e, μ1)
  | _ => none := by
  unfold eOr bE
  rcases fa sd μ with _ | ⟨_ | x, m⟩ <;> try rfl
  cases x <;> try rfl
  rename_i b; cases b <;> rfl
@[simp] theorem eNot_e (fa : EE) (sd : Sl) (μ : Mem) : eNot fa sd μ = match fa sd μ with
  | some (.ok (.bl b), μ1) => some (.ok (.bl (!b)), μ1)
  | some (.error e, μ1) => some (.error e, μ1)
  | _ => none := by
  unfold eNot bE
  rcases fa sd μ with _ | ⟨_ | x, m⟩ <;> try rfl
  cases x <;> rfl
@[simp] theorem qYes_e (sd : Sl) (μ : Mem) : qYes sd μ = some (.ok true, μ) := rfl
@[simp] theorem qB_e (fa : EE) (sd : Sl) (μ : Mem) : qB fa sd μ = match fa sd μ with
  | some (.ok (.bl b), μ1) => some (.ok b, μ1)
  | some (.error e, μ1) => some (.error e, μ1)
  | _ => none := by
  unfold qB bE
  rcases fa sd μ with _ | ⟨_ | x, m⟩ <;> try rfl
  cases x <;> rfl
@[simp] theorem qTru_e (fa : EE) (sd : Sl) (μ : Mem) : qTru fa sd μ = match fa sd μ with
  | none => none
  | some (.error e, μ1) => some (.error e, μ1)
  | some (.ok x, μ1) => match truD μ1 x with
    | none => none
    | some b => some (.ok b, μ1) := by
  unfold qTru bE
  rcases fa sd μ with _ | ⟨_ | x, m⟩ <;> try rfl
  dsimp only
  cases truD m x <;> rfl
@[simp] theorem qNot_e (t : ET) (sd : Sl) (μ : Mem) : qNot t sd μ = match t sd μ with
  | none => none
  | some (.error e, μ1) => some (.error e, μ1)
  | some (.ok b, μ1) => some (.ok (!b), μ1) := by
  unfold qNot bE
  rcases t sd μ with _ | ⟨_ | x, m⟩ <;> rfl
@[simp] theorem qAnd_e (t u : ET) (sd : Sl) (μ : Mem) : qAnd t u sd μ = match t sd μ with
  | none => none
  | some (.error e, μ1) => some (.error e, μ1)
  | some (.ok true, μ1) => u sd μ1
  | some (.ok false, μ1) => some (.ok false, μ1) := by
  unfold qAnd bE
  rcases t sd μ with _ | ⟨_ | x, m⟩ <;> try rfl
  cases x <;> rfl
@[simp] theorem qOr_e (t u : ET) (sd : Sl) (μ : Mem) : qOr t u sd μ = match t sd μ with
  | none => none
  | some (.error e, μ1) => some (.error e, μ1)
  | some (.ok true, μ1) => some (.ok true, μ1)
  | some (.ok false, μ1) => u sd μ1 := by
  unfold qOr bE
  rcases t sd μ with _ | ⟨_ | x, m⟩ <;> try rfl
  cases x <;> rfl
@[simp] theorem eCall_e (m : Mir) (np : Nat) (a : EA) (sd : Sl) (μ : Mem) : eCall m np a sd μ = match a sd μ with
  | none => none
  | some (.error e, μ1) => some (.error e, μ1)
  | some (.ok ds, μ1) => match argsD μ1 ds with
    | none => none
    | some ds' => if ds'.length = np then (match m ds' with
      | none => none
      | some (.ok d) => some (.ok d, μ1)
      | some (.error e) => some (.error e, μ1)) else none := by
  unfold eCall bE
  rcases a sd μ with _ | ⟨_ | x, m⟩ <;> try rfl
  dsimp only
  cases argsD m x <;> rfl
@[simp] theorem eSl_e (g : Mem → D → Option Int → Option Int → Option D) (f : EE) (l h : EO) (sd : Sl) (μ : Mem) : eSl g f l h sd μ = match f sd μ with
  | none => none
  | some (.error e, μ1) => some (.error e, μ1)
  | some (.ok x, μ1) => match l sd μ1 with
    | none => none
    | some (.error e, μ2) => some (.error e, μ2)
    | some (.ok i, μ2) => match h sd μ2 with
      | none => none
      | some (.error e, μ3) => some (.error e, μ3)
      | some (.ok j, μ3) => match g μ3 x i j with
        | none => none
        | some d => some (.ok d, μ3) := by
  unfold eSl bE
  rcases f sd μ with _ | ⟨_ | x, m⟩ <;> try rfl
  dsimp only
  rcases l sd m with _ | ⟨_ | i, m2⟩ <;> try rfl
  dsimp only
  rcases h sd m2 with _ | ⟨_ | j, m3⟩ <;> try rfl
  dsimp only
  cases g m3 x i j <;> rfl
@[simp] theorem oNone_e (sd : Sl) (μ : Mem) : oNone sd μ = some (.ok none, μ) := rfl
@[simp] theorem oSome_e (f : EE) (sd : Sl) (μ : Mem) : oSome f sd μ = match f sd μ with
  | some (.ok (.int i), μ1) => some (.ok (some i), μ1)
  | some (.error e, μ1) => some (.error e, μ1)
  | _ => none := by
  unfold oSome bE
  rcases f sd μ with _ | ⟨_ | x, m⟩ <;> try rfl
  cases x <;> rfl
@[simp] theorem eMu_e (g : Mem → D → List D → Option (D × Mem)) (f : EE) (a : EA) (sd : Sl) (μ : Mem) : eMu g f a sd μ = match f sd μ with
  | none => none
  | some (.error e, μ1) => some (.error e, μ1)
  | some (.ok x, μ1) => match isLst μ1 x with
    | none => none
    | some _ => match a sd μ1 with
      | none => none
      | some (.error e, μ2) => some (.error e, μ2)
      | some (.ok ds, μ2) => match g μ2 x ds with
        | none => none
        | some (d, μ3) => some (.ok d, μ3) := by
  unfold eMu bE
  rcases f sd μ with _ | ⟨_ | x, m⟩ <;> try rfl
  dsimp only
  cases isLst m x <;> try rfl
  rename_i w; dsimp only [Option.bind]
  rcases a sd m with _ | ⟨_ | ds, m2⟩ <;> try rfl
  dsimp only
  cases g m2 x ds <;> rfl
@[simp] theorem iSeq_e (f : EE) (sd : Sl) (μ : Mem) : iSeq f sd μ = match f sd μ with
  | none => none
  | some (.error e, μ1) => some (.error e, μ1)
  | some (.ok d, μ1) => match srcD μ1 d with
    | none => none
    | some z => some (.ok z, μ1) := by
  unfold iSeq bE
  rcases f sd μ with _ | ⟨_ | x, m⟩ <;> try rfl
  dsimp only
  cases srcD m x <;> rfl
@[simp] theorem gD_e (i : Nat) (sd : Sl) (μ : Mem) (d : D) : gD i sd μ d = match d with
  | .new _ => none
  | d => some (sd.set i (some d), μ) := rfl
@[simp] theorem gTup_e (u : TgsD) (sd : Sl) (μ : Mem) (ds : List D) : gTupD u sd μ (.tup ds) = u sd μ ds := rfl
@[simp] theorem gNil_e (sd : Sl) (μ : Mem) : gNilD sd μ [] = some (sd, μ) := rfl
@[simp] theorem gCons_e (t : TgD) (u : TgsD) (sd : Sl) (μ : Mem) (d : D) (ds : List D) : gConsD t u sd μ (d :: ds) = match t sd μ d with
  | none => none
  | some (sd1, μ1) => u sd1 μ1 ds := by
  show ((t sd μ d).bind fun z => u z.1 z.2 ds) = _
  cases t sd μ d <;> rfl
@[simp] theorem c1_e (g : Mem → D → Option D) (μ : Mem) (d : D) : c1 g μ [d] = g μ d := rfl
@[simp] theorem c2_e (g : Mem → D → D → Option D) (μ : Mem) (d e : D) : c2 g μ [d, e] = g μ d e := rfl
@[simp] theorem out_int (μ : Mem) (i : Int) : outD μ (.int i) = some (.int i) := rfl
@[simp] theorem out_bl (μ : Mem) (i : Bool) : outD μ (.bl i) = some (.bl i) := rfl
@[simp] theorem out_non (μ : Mem) : outD μ .non = some .non := rfl
@[simp] theorem neg_int (μ : Mem) (i : Int) : gNeg μ (.int i) = some (.int (-i)) := rfl
theorem out_tup {μ : Mem} {ds : List D} (h : plainL ds = true) : outD μ (.tup ds) = some (.tup ds) := by
  show (if plainL ds = true then _ else _) = _
  rw [if_pos h]
theorem plainL_int (l : List Int) : plainL (l.map D.int) = true := by
  induction l with
  | nil => rfl
  | cons x l ih => exact ih
theorem atI_nat {α : Type} (l : List α) (k : Nat) (h : k < l.length) : L2.atI l (k : Int) = some (l[k]'h) := by
  unfold L2.atI L2.ixN
  rw [if_pos (by omega), if_pos (by omega)]
  simp [h]
theorem ix_map {α : Type} {μ : Mem} {x : D} {l : List α} {e : α → D} {i : Int} (d : α) (hx : x = .tup (l.map e) ∨ lsAny μ x = some (l.map e)) (h0 : 0 ≤ i) (h : i < l.length) (hn : ∀ a es, e a ≠ .new es) : gIx μ x (.int i) = some (e (l.getD i.toNat d)) := by
  obtain ⟨k, rfl⟩ := Int.eq_ofNat_of_zero_le h0
  have hk : k < l.length := by omega
  refine gIx_int hx ?_ (hn _)
  rw [atI_nat _ k (by simpa using hk)]
  simp [List.getD, hk]
theorem ix_int {μ : Mem} {x : D} {l : List Int} {i : Int} (hx : x = .tup (l.map D.int) ∨ lsAny μ x = some (l.map D.int)) (h0 : 0 ≤ i) (h : i < l.length) : gIx μ x (.int i) = some (.int (l.getD i.toNat 0)) :=
  ix_map 0 hx h0 h (fun _ _ e => by cases e)
/-! sums of ints -/
@[simp] theorem add_int (μ : Mem) (i j : Int) : gAdd μ (.int i) (.int j) = some (.int (i + j)) := rfl
@[simp] theorem sub_int (μ : Mem) (i j : Int) : gSubI μ (.int i) (.int j) = some (.int (i - j)) := rfl
theorem mul_int {μ : Mem} {i j : Int} (h : CMulW i j) : gMul μ (.int i) (.int j) = some (.int (i * j)) := by
  unfold gMul gMulI gI
  simp only [when_t h, Option.some_or]
theorem add_tup {μ : Mem} {ds es : List D} (h : ds.length + es.length ≤ 100000) : gAdd μ (.tup ds) (.tup es) = some (.tup (ds ++ es)) := by
  have h2 : ds.length + es.length ≤ sizeLine := le_size h
  unfold gAdd
  have : gAddI μ (.tup ds) (.tup es) = none := rfl
  rw [this]
  show (Option.or (if ds.length + es.length ≤ sizeLine then _ else _) _) = _
  rw [if_pos h2]
  rfl
theorem mul_tup {μ : Mem} {ds : List D} {k : Int} (h : k ≤ 1000) (h0 : 0 ≤ k) (hl : ds.length ≤ 1000) : gMul μ (.tup ds) (.int k) = some (.tup (List.replicate k.toNat ds).flatten) := by
  unfold gMul
  have : gMulI μ (.tup ds) (.int k) = none := rfl
  rw [this]
  show (Option.or (when_ _ _) _) = _
  rw [when_t ⟨h, hl, by omega⟩]
  rfl
@[simp] theorem flat_rep {α : Type} (n : Nat) (x : α) : (List.replicate n [x]).flatten = List.replicate n x := by
  induction n with
  | zero => rfl
  | succ n ih => simp [List.replicate_succ, ih]
@[simp] theorem sz0 : 0 ≤ sizeLine := le_size (by decide)
@[simp] theorem sz1 : 1 ≤ sizeLine := le_size (by decide)
@[simp] theorem sz2 : 2 ≤ sizeLine := le_size (by decide)
@[simp] theorem sz3 : 3 ≤ sizeLine := le_size (by decide)
@[simp] theorem sz4 : 4 ≤ sizeLine := le_size (by decide)
@[simp] theorem sz5 : 5 ≤ sizeLine := le_size (by decide)
@[simp] theorem sz6 : 6 ≤ sizeLine := le_size (by decide)
@[simp] theorem sz7 : 7 ≤ sizeLine := le_size (by decide)
@[simp] theorem sz8 : 8 ≤ sizeLine := le_size (by decide)
@[simp] theorem sz9 : 9 ≤ sizeLine := le_size (by decide)
@[simp] theorem sz10 : 10 ≤ sizeLine := le_size (by decide)
@[simp] theorem sz11 : 11 ≤ sizeLine := le_size (by decide)
@[simp] theorem sz12 : 12 ≤ sizeLine := le_size (by decide)
end DL

namespace DL
open PySem PySem.Spec PyProof.Rows L2
theorem iR1_of {f : EA} {sd : Sl} {μ : Mem} {n : Nat} (h : f sd μ = some (.ok [.int n], μ)) (hn : n ≤ 100000) : iR1 f sd μ = some (.ok ((List.range n).map (fun i : Nat => D.int i), fun _ => True), μ) := by
  unfold iR1
  rw [h]
  simp only [bE_ok, one, intD, Option.bind_some]
  rw [when_t ⟨by omega, by omega⟩, Int.toNat_natCast, range0]
theorem add_new {μ : Mem} {x y : D} {ds es : List D} (hx : isLst μ x = some ds) (hy : isLst μ y = some es) (h : ds.length + es.length ≤ 100000) : gAdd μ x y = some (.new (ds ++ es)) := by
  have h1 : gAddI μ x y = none := by cases x <;> first | rfl | exact absurd hx (by simp [isLst])
  have h2 : gAddT μ x y = none := by cases x <;> first | rfl | exact absurd hx (by simp [isLst])
  unfold gAdd
  rw [h1, h2]
  show Option.or (gAddL μ x y) _ = _
  unfold gAddL
  rw [hx, hy]
  show Option.or (if ds.length + es.length ≤ sizeLine then _ else _) _ = _
  rw [if_pos (le_size h)]
  rfl
@[simp] theorem isl_new (μ : Mem) (ds : List D) : isLst μ (.new ds) = some ds := rfl
@[simp] theorem isl_lst (μ : Mem) (ds : List D) : isLst μ (.lst ds) = some ds := rfl
@[simp] theorem lsA_new (μ : Mem) (ds : List D) : lsAny μ (.new ds) = some ds := rfl
@[simp] theorem lsA_lst (μ : Mem) (ds : List D) : lsAny μ (.lst ds) = some ds := rfl
@[simp] theorem lsA_lck (μ : Mem) (ds : List D) : lsAny μ (.lck ds) = some ds := rfl
@[simp] theorem lsA_ref (μ : Mem) (n : Nat) : lsAny μ (.ref n) = isLst μ (.ref n) := rfl
@[simp] theorem isl_ref (μ : Mem) (n : Nat) : isLst μ (.ref n) = match μ[n]? with
  | some (.lst ds) => some ds
  | _ => none := rfl
@[simp] theorem tup_new (μ : Mem) (ds : List D) : gTuple μ [.new ds] = some (.tup ds) := rfl
@[simp] theorem tup_lst (μ : Mem) (ds : List D) : gTuple μ [.lst ds] = some (.tup ds) := rfl
@[simp] theorem tup_tup (μ : Mem) (ds : List D) : gTuple μ [.tup ds] = some (.tup ds) := rfl
@[simp] theorem len_tup (μ : Mem) (ds : List D) : gLen μ [.tup ds] = some (.int ds.length) := rfl
@[simp] theorem len_new (μ : Mem) (ds : List D) : gLen μ [.new ds] = some (.int ds.length) := rfl
@[simp] theorem len_lst (μ : Mem) (ds : List D) : gLen μ [.lst ds] = some (.int ds.length) := rfl
@[simp] theorem len_lck (μ : Mem) (ds : List D) : gLen μ [.lck ds] = some (.int ds.length) := rfl
theorem tup_any {μ : Mem} {x : D} {ds : List D} (h : lsAny μ x = some ds) : gTuple μ [x] = some (.tup ds) := by
  show g1Tuple μ x = _
  unfold g1Tuple
  cases x <;> simp only [] <;> first | (rw [h]; rfl) | exact absurd h (by simp [lsAny, isLst])
theorem len_any {μ : Mem} {x : D} {ds : List D} (h : lsAny μ x = some ds) : gLen μ [x] = some (.int ds.length) := by
  show g1Len μ x = _
  unfold g1Len sqAny
  cases x <;> simp only [] <;> first | (rw [h]; rfl) | exact absurd h (by simp [lsAny, isLst])
theorem add_nn {μ : Mem} {ds es : List D} (h : ds.length + es.length ≤ 100000) : gAdd μ (.new ds) (.new es) = some (.new (ds ++ es)) := add_new rfl rfl h
theorem okAL_map {α : Type} {e : α → D} (h : ∀ a, okA (e a) = true) (l : List α) : okAL (l.map e) = true := by
  induction l with
  | nil => rfl
  | cons x l ih => show (okA (e x) && okAL (l.map e)) = true; rw [h, ih]; rfl
theorem plainL_map {α : Type} {e : α → D} (h : ∀ a, plain (e a) = true) (l : List α) : plainL (l.map e) = true := by
  induction l with
  | nil => rfl
  | cons x l ih => show (plain (e x) && plainL (l.map e)) = true; rw [h, ih]; rfl
@[simp] theorem argsD_nil (μ : Mem) : argsD μ [] = some [] := rfl
@[simp] theorem argsD_cons (μ : Mem) (d : D) (ds : List D) : argsD μ (d :: ds) = match argD μ d with
  | none => none
  | some x => match argsD μ ds with
    | none => none
    | some xs => some (x :: xs) := by
  show ((argD μ d).bind fun x => (argsD μ ds).map fun xs => x :: xs) = _
  cases argD μ d with
  | none => rfl
  | some x => cases argsD μ ds <;> rfl
@[simp] theorem argD_int (μ : Mem) (i : Int) : argD μ (.int i) = some (.int i) := rfl
@[simp] theorem argD_bl (μ : Mem) (i : Bool) : argD μ (.bl i) = some (.bl i) := rfl
@[simp] theorem argD_non (μ : Mem) : argD μ .non = some .non := rfl
@[simp] theorem argD_str (μ : Mem) (z : Str) : argD μ (.str z) = some (.str z) := rfl
theorem argD_tup {μ : Mem} {ds : List D} (h : okAL ds = true) : argD μ (.tup ds) = some (.tup ds) := if_pos h
theorem argD_lck {μ : Mem} {ds : List D} (h : okAL ds = true) : argD μ (.lck ds) = some (.lck ds) := if_pos h
theorem argD_new {μ : Mem} {ds : List D} (h : okAL ds = true) : argD μ (.new ds) = some (.lst ds) := if_pos h
theorem argD_ref {μ : Mem} {n : Nat} {ds : List D} (hm : μ[n]? = some (.lst ds)) (h : okAL ds = true) : argD μ (.ref n) = some (.lst ds) := by
  unfold argD
  simp only [hm, h, if_true]
theorem out_ref {μ : Mem} {n : Nat} {ds : List D} (hm : μ[n]? = some (.lst ds)) (h : plainL ds = true) : outD μ (.ref n) = some (.new ds) := by
  unfold outD
  simp only [hm, h, if_true]
@[simp] theorem lt_int (μ : Mem) (i j : Int) : gLtI μ (.int i) (.int j) = some (.bl (decide (i < j))) := rfl
@[simp] theorem le_int (μ : Mem) (i j : Int) : gLeI μ (.int i) (.int j) = some (.bl (decide (i ≤ j))) := rfl
@[simp] theorem gt_int (μ : Mem) (i j : Int) : gGtI μ (.int i) (.int j) = some (.bl (decide (i > j))) := rfl
@[simp] theorem ge_int (μ : Mem) (i j : Int) : gGeI μ (.int i) (.int j) = some (.bl (decide (i ≥ j))) := rfl
theorem mod_int {μ : Mem} {i j : Int} (h : 0 < j) : gModI μ (.int i) (.int j) = some (.int (i % j)) := when_t h
theorem div_int {μ : Mem} {i j : Int} (h : CDivW i j) : gDivI μ (.int i) (.int j) = some (.int (i / j)) := when_t h
theorem pow_int {μ : Mem} {i j : Int} (h : CPow i j) : gPowI μ (.int i) (.int j) = some (.int (i ^ j.toNat)) := when_t h
@[simp] theorem abs_int (μ : Mem) (i : Int) : gAbs μ [.int i] = some (.int (if i < 0 then -i else i)) := rfl
@[simp] theorem int_int (μ : Mem) (i : Int) : gInt μ [.int i] = some (.int i) := rfl
@[simp] theorem tru_bl (μ : Mem) (b : Bool) : truD μ (.bl b) = some b := rfl
@[simp] theorem isN_int (μ : Mem) (n : Bool) (i : Int) : gIsN n μ (.int i) .non = some (.bl n) := by cases n <;> rfl
@[simp] theorem isN_bl (μ : Mem) (n : Bool) (i : Bool) : gIsN n μ (.bl i) .non = some (.bl n) := by cases n <;> rfl
@[simp] theorem isN_str (μ : Mem) (n : Bool) (i : Str) : gIsN n μ (.str i) .non = some (.bl n) := by cases n <;> rfl
@[simp] theorem isN_tup (μ : Mem) (n : Bool) (i : List D) : gIsN n μ (.tup i) .non = some (.bl n) := by cases n <;> rfl
@[simp] theorem isN_non (μ : Mem) (n : Bool) : gIsN n μ .non .non = some (.bl (!n)) := by cases n <;> rfl
@[simp] theorem isi_int_tup (μ : Mem) (i : Int) : gIsi μ [.int i, .ty "tuple"] = some (.bl false) := rfl
@[simp] theorem isi_int_int (μ : Mem) (i : Int) : gIsi μ [.int i, .ty "int"] = some (.bl true) := rfl
@[simp] theorem isi_int_bool (μ : Mem) (i : Int) : gIsi μ [.int i, .ty "bool"] = some (.bl false) := rfl
@[simp] theorem isi_int_str (μ : Mem) (i : Int) : gIsi μ [.int i, .ty "str"] = some (.bl false) := rfl
@[simp] theorem isi_bl_tup (μ : Mem) (i : Bool) : gIsi μ [.bl i, .ty "tuple"] = some (.bl false) := rfl
@[simp] theorem isi_bl_int (μ : Mem) (i : Bool) : gIsi μ [.bl i, .ty "int"] = some (.bl true) := rfl
@[simp] theorem isi_bl_bool (μ : Mem) (i : Bool) : gIsi μ [.bl i, .ty "bool"] = some (.bl true) := rfl
@[simp] theorem isi_bl_str (μ : Mem) (i : Bool) : gIsi μ [.bl i, .ty "str"] = some (.bl false) := rfl
@[simp] theorem isi_tup_tup (μ : Mem) (i : List D) : gIsi μ [.tup i, .ty "tuple"] = some (.bl true) := rfl
@[simp] theorem isi_tup_int (μ : Mem) (i : List D) : gIsi μ [.tup i, .ty "int"] = some (.bl false) := rfl
@[simp] theorem isi_str_tup (μ : Mem) (i : Str) : gIsi μ [.str i, .ty "tuple"] = some (.bl false) := rfl
@[simp] theorem isi_str_str (μ : Mem) (i : Str) : gIsi μ [.str i, .ty "str"] = some (.bl true) := rfl
@[simp] theorem isi_str_bool (μ : Mem) (i : Str) : gIsi μ [.str i, .ty "bool"] = some (.bl false) := rfl
@[simp] theorem isi_str_int (μ : Mem) (i : Str) : gIsi μ [.str i, .ty "int"] = some (.bl false) := rfl
@[simp] theorem src_tupE (μ : Mem) (ds : List D) : srcD μ (.tup ds) = some (ds, fun _ => True) := rfl
@[simp] theorem src_lckE (μ : Mem) (ds : List D) : srcD μ (.lck ds) = some (ds, fun _ => True) := rfl
@[simp] theorem src_lstE (μ : Mem) (ds : List D) : srcD μ (.lst ds) = some (ds, fun _ => True) := rfl
@[simp] theorem src_newE (μ : Mem) (ds : List D) : srcD μ (.new ds) = some (ds, fun _ => True) := rfl
theorem app_ref {μ : Mem} {n : Nat} {es : List D} {d : D} (h : μ[n]? = some (.lst es)) (hl : es.length ≤ 100000) (hd : notNew d = true) : muAppend μ (.ref n) [d] = some (.non, μ.set n (.lst (es ++ [d]))) := by
  have hs : es.length < sizeLine := Nat.lt_of_le_of_lt hl (by decide)
  unfold muAppend
  cases d with
  | new ds => cases hd
  | _ => simp only [h, hs, if_true]
@[simp] theorem eChain_e (g1 g2 : Mem → D → D → Option D) (fa fb fc : EE) (sd : Sl) (μ : Mem) : eChain g1 g2 fa fb fc sd μ = match fa sd μ with
  | none => none
  | some (.error e, μ1) => some (.error e, μ1)
  | some (.ok x, μ1) => match fb sd μ1 with
    | none => none
    | some (.error e, μ2) => some (.error e, μ2)
    | some (.ok y, μ2) => match g1 μ2 x y with
      | some (.bl true) => (match fc sd μ2 with
        | none => none
        | some (.error e, μ3) => some (.error e, μ3)
        | some (.ok z, μ3) => match g2 μ3 y z with
          | none => none
          | some d => some (.ok d, μ3))
      | some (.bl false) => some (.ok (.bl false), μ2)
      | _ => none := by
  unfold eChain bE
  rcases fa sd μ with _ | ⟨_ | x, m⟩ <;> try rfl
  dsimp only
  rcases fb sd m with _ | ⟨_ | y, m2⟩ <;> try rfl
  dsimp only
  cases g1 m2 x y with
  | none => rfl
  | some r =>
    cases r <;> try rfl
    rename_i b
    cases b <;> try rfl
    dsimp only [Option.bind, boolD]
    simp only [if_true]
    rcases fc sd m2 with _ | ⟨_ | z, m3⟩ <;> try rfl
    dsimp only
    cases g2 m3 y z <;> rfl
@[simp] theorem gSub_e (fo fi : EE) (sd : Sl) (μ : Mem) (d : D) : gSub fo fi sd μ d = match fo sd μ with
  | some (.ok x, μ1) => (match fi sd μ1 with
    | some (.ok y, μ2) => (match setM μ2 x y d with
      | none => none
      | some μ3 => some (sd, μ3))
    | _ => none)
  | _ => none := by
  unfold gSub
  rcases fo sd μ with _ | ⟨_ | x, m⟩ <;> try rfl
  dsimp only
  rcases fi sd m with _ | ⟨_ | y, m2⟩ <;> try rfl
  dsimp only
  cases setM m2 x y d <;> rfl
@[simp] theorem sAugS_e (fo fi : EE) (g : Mem → D → D → Option D) (f : EE) (sd : Sl) (μ : Mem) : sAugS fo fi g f sd μ = match fo sd μ with
  | none => none
  | some (.error e, μ1) => some (.exc e, sd, μ1)
  | some (.ok x, μ1) => match fi sd μ1 with
    | none => none
    | some (.error e, μ2) => some (.exc e, sd, μ2)
    | some (.ok y, μ2) => match (if posI y = true then gIxL μ2 x y else none) with
      | none => none
      | some old => match f sd μ2 with
        | none => none
        | some (.error e, μ3) => some (.exc e, sd, μ3)
        | some (.ok z, μ3) => match g μ3 old z with
          | none => none
          | some d => match setM μ3 x y d with
            | none => none
            | some μ4 => some (.nx, sd, μ4) := by
  unfold sAugS bS
  rcases fo sd μ with _ | ⟨_ | x, m⟩ <;> try rfl
  dsimp only
  rcases fi sd m with _ | ⟨_ | y, m2⟩ <;> try rfl
  dsimp only
  generalize (if posI y = true then gIxL m2 x y else none) = w
  cases w <;> try rfl
  rename_i old
  dsimp only
  rcases f sd m2 with _ | ⟨_ | z, m3⟩ <;> try rfl
  dsimp only
  cases g m3 old z <;> try rfl
  rename_i d
  dsimp only
  cases setM m3 x y d <;> rfl
theorem ixN_nat {n k : Nat} (h : k < n) : ixN n (k : Int) = some k := by
  unfold ixN
  rw [if_pos (by omega), if_pos (by omega), Int.toNat_natCast]
theorem set_ref {μ : Mem} {n k : Nat} {ds : List D} {d : D} (hm : μ[n]? = some (.lst ds)) (hk : k < ds.length) (hd : notNew d = true) : setM μ (.ref n) (.int k) d = some (μ.set n (.lst (ds.set k d))) := by
  unfold setM
  simp only [hm, hd, if_true, ixN_nat hk, Option.map_some]
theorem ixL_ref {μ : Mem} {n k : Nat} {l : List Int} (hm : μ[n]? = some (.lst (l.map D.int))) (hk : k < l.length) : gIxL μ (.ref n) (.int k) = some (.int (l.getD k 0)) := by
  show ((lsAny μ (.ref n)).bind fun ds => itemD (L2.atI ds k)) = _
  rw [lsA_ref, isl_ref, hm]
  show itemD (L2.atI (l.map D.int) k) = _
  rw [atI_nat _ k (by simpa using hk)]
  simp [itemD, List.getD, hk]
theorem mul_new {μ : Mem} {ds : List D} {k : Int} (h0 : 0 ≤ k) (h1 : k ≤ 1000) (h : ds.length ≤ 100) : gMul μ (.new ds) (.int k) = some (.new (List.replicate k.toNat ds).flatten) := by
  have h2 : ds.length * k.toNat ≤ sizeLine := le_size (Nat.le_trans (Nat.mul_le_mul h (show k.toNat ≤ 1000 by omega)) (by decide))
  unfold gMul
  rw [show gMulI μ (.new ds) (.int k) = none from rfl, show gMulT μ (.new ds) (.int k) = none from rfl, Option.none_or, Option.none_or]
  show when_ _ _ = _
  rw [when_t ⟨by omega, by omega, h2⟩]
theorem iZip_tup {f : EA} {sd : Sl} {μ : Mem} {ds es : List D} (h : f sd μ = some (.ok [.tup ds, .tup es], μ)) : iZip2 f sd μ = some (.ok (zipD ds es, fun _ => True ∧ True), μ) := by
  unfold iZip2
  rw [h]
  rfl
theorem sum_new (μ : Mem) (l : List Int) : gSum μ [.new (l.map D.int)] = some (.int l.sum) := by
  have key : ∀ l : List Int, allD intD (l.map D.int) = some l := fun l => by
    induction l with
    | nil => rfl
    | cons x l ih => show ((intD (D.int x)).bind fun i => (allD intD (l.map D.int)).map fun is => i :: is) = _; rw [ih]; rfl
  show ((allD intD (l.map D.int)).map fun is => D.int is.sum) = _
  rw [key]
  rfl
theorem all_new (μ : Mem) (l : List Bool) : gAll μ [.new (l.map D.bl)] = some (.bl (l.all id)) := by
  have key : ∀ l : List Bool, allD boolD (l.map D.bl) = some l := fun l => by
    induction l with
    | nil => rfl
    | cons x l ih => show ((boolD (D.bl x)).bind fun i => (allD boolD (l.map D.bl)).map fun is => i :: is) = _; rw [ih]; rfl
  show ((allD boolD (l.map D.bl)).map fun is => D.bl (is.all id)) = _
  rw [key]
  rfl
theorem cut1 (d : D) (ds : List D) : cutD (d :: ds) (some 1) none = ds := by
  unfold cutD HT.sIx
  simp
theorem sl_tup1 (μ : Mem) (d : D) (ds : List D) : gSl μ (.tup (d :: ds)) (some 1) none = some (.tup ds) := by
  show Option.or (some (D.tup (cutD (d :: ds) (some 1) none))) _ = _
  rw [cut1]
  rfl
end DL

namespace LK
open PySem PySem.Spec PyProof.Rows L2 DL
def top (i : Nat) : Stmt := PySem.Challenge.pw_liftedliars_k07_claims_and_blends.main.body.getD i (.Pass ⟨0, 0, 0, 0⟩)
theorem bo_tuple : bootBuiltins "tuple" = some (.type "tuple") := by decide +kernel
theorem bo_zip : bootBuiltins "zip" = some (.type "zip") := by decide +kernel
theorem bo_sum : bootBuiltins "sum" = some (.builtin "sum") := by decide +kernel
theorem bo_all : bootBuiltins "all" = some (.builtin "all") := by decide +kernel
theorem bo_bool : bootBuiltins "bool" = some (.type "bool") := by decide +kernel
theorem bo_isinstance : bootBuiltins "isinstance" = some (.builtin "isinstance") := by decide +kernel
theorem bo_int : bootBuiltins "int" = some (.type "int") := by decide +kernel
theorem bo_str : bootBuiltins "str" = some (.type "str") := by decide +kernel
theorem bo_len : bootBuiltins "len" = some (.builtin "len") := by decide +kernel
theorem bo_range : bootBuiltins "range" = some (.type "range") := by decide +kernel
theorem bo_abs : bootBuiltins "abs" = some (.builtin "abs") := by decide +kernel
structure Bi (mg : Mg) : Prop where
  b_tuple : mg "tuple" = none
  b_zip : mg "zip" = none
  b_sum : mg "sum" = none
  b_all : mg "all" = none
  b_bool : mg "bool" = none
  b_isinstance : mg "isinstance" = none
  b_int : mg "int" = none
  b_str : mg "str" = none
  b_len : mg "len" = none
  b_range : mg "range" = none
  b_abs : mg "abs" = none
/-! _law_multiple(claim, goal): slots 0=claim 1=goal 2=found 3=at 4=k 5=number -/
abbrev s__law_multiple : Stmt := top 17
theorem sc__law_multiple : FnScope ["claim", "goal", "found", "at", "k", "number"] ["claim", "goal"] (defScope s__law_multiple) := ⟨rfl, rfl, rfl, by decide +kernel, rfl, by decide +kernel, by decide +kernel⟩
noncomputable def _law_multiple_c1 : EE :=
    eLc (iR1 (eCons (eCB gLen (eCons (eV 1) (eNil))) (eNil))) (gD 4) (qB (eBin (gEqD true) (eBin gMul (eBin gIx (eV 0) (eV 4)) (eBin gIx (eV 1) (eV 3))) (eBin gMul (eBin gIx (eV 1) (eV 4)) (eBin gIx (eV 0) (eV 3))))) (eV 4) [4]
noncomputable def _law_multiple_c2 : EE :=
    eLc (iSeq (eV 0)) (gD 5) (qB (eBin (gEqD true) (eV 5) (eC (.int 0)))) (eV 5) [5]
noncomputable def _law_multiple_c3 : EE :=
    eLc (iR1 (eCons (eCB gLen (eCons (eV 1) (eNil))) (eNil))) (gD 4) (qB (eBin (gEqD true) (eBin gIx (eV 1) (eV 4)) (eC (.int 0)))) (eV 4) [4]
noncomputable def b__law_multiple : SS :=
    sSeq (sAsg (eOwn _law_multiple_c3) (gD 2))
    (sSeq (sIf (qB (eBin (gEqD false) (eCB gLen (eCons (eV 2) (eNil))) (eC (.int 0)))) (sRet (eBin (gEqD false) (eCB gLen (eCons (_law_multiple_c2) (eNil))) (eC (.int 0)))) (sSkip))
    (sSeq (sAsg (eOwn (eBin gIx (eV 2) (eC (.int 0)))) (gD 3))
    (sSeq (sIf (qB (eBin gLeI (eBin gMul (eBin gIx (eV 0) (eV 3)) (eBin gIx (eV 1) (eV 3))) (eC (.int 0)))) (sRet (eC (.bl false))) (sSkip))
    (sRet (eBin (gEqD false) (eCB gLen (eCons (_law_multiple_c1) (eNil))) (eC (.int 0)))))))
noncomputable def m__law_multiple : Mir := runF 6 b__law_multiple
/-! is_multiple(claim, goal): slots 0=claim 1=goal 2=one 3=first 4=other 5=second -/
abbrev s_is_multiple : Stmt := top 6
theorem sc_is_multiple : FnScope ["claim", "goal", "one", "first", "other", "second"] ["claim", "goal"] (defScope s_is_multiple) := ⟨rfl, rfl, rfl, by decide +kernel, rfl, by decide +kernel, by decide +kernel⟩
noncomputable def is_multiple_c1 : EE :=
    eLc (iZip2 (eCons (eV 0) (eCons (eV 1) (eNil)))) (gTupD (gConsD (gD 2) (gConsD (gD 3) (gNilD)))) (qYes) (eOr (eBin gGtI (eBin gMul (eV 2) (eV 3)) (eC (.int 0))) (eChain (gEqD false) (gEqD false) (eV 2) (eV 3) (eC (.int 0)))) [2, 3]
noncomputable def is_multiple_b1 : SS :=
    sIf (qB (eBin (gEqD true) (eBin gMul (eV 2) (eV 5)) (eBin gMul (eV 4) (eV 3)))) (sRet (eC (.bl false))) (sSkip)
noncomputable def is_multiple_l1 : SS :=
    sFor (iZip2 (eCons (eV 0) (eCons (eV 1) (eNil)))) (gTupD (gConsD (gD 4) (gConsD (gD 5) (gNilD)))) (is_multiple_b1)
noncomputable def is_multiple_b2 : SS :=
    is_multiple_l1
noncomputable def is_multiple_l2 : SS :=
    sFor (iZip2 (eCons (eV 0) (eCons (eV 1) (eNil)))) (gTupD (gConsD (gD 2) (gConsD (gD 3) (gNilD)))) (is_multiple_b2)
noncomputable def b_is_multiple : SS :=
    sSeq (is_multiple_l2)
    (sRet (eCB gAll (eCons (is_multiple_c1) (eNil))))
noncomputable def m_is_multiple : Mir := runF 6 b_is_multiple
/-! _law_bools(told, expected): slots 0=told 1=expected -/
abbrev s__law_bools : Stmt := top 19
theorem sc__law_bools : FnScope ["told", "expected"] ["told", "expected"] (defScope s__law_bools) := ⟨rfl, rfl, rfl, by decide +kernel, rfl, by decide +kernel, by decide +kernel⟩
noncomputable def b__law_bools : SS :=
    sRet (eAnd (eCB gIsi (eCons (eV 0) (eCons (eC (.ty "bool")) (eNil)))) (eBin (gEqD false) (eV 0) (eV 1)))
noncomputable def m__law_bools : Mir := runF 2 b__law_bools
/-! _law_small_is_blend(row): slots 0=row 1=number -/
abbrev s__law_small_is_blend : Stmt := top 20
theorem sc__law_small_is_blend : FnScope ["row", "number"] ["row"] (defScope s__law_small_is_blend) := ⟨rfl, rfl, rfl, by decide +kernel, rfl, by decide +kernel, by decide +kernel⟩
noncomputable def _law_small_is_blend_c1 : EE :=
    eLc (iSeq (eV 0)) (gD 1) (qOr (qB (eBin gLtI (eV 1) (eC (.int 0)))) (qB (eBin gGtI (eV 1) (eBin gIx (eV 0) (eC (.int 0)))))) (eV 1) [1]
noncomputable def b__law_small_is_blend : SS :=
    sRet (eBin (gEqD false) (eCB gLen (eCons (_law_small_is_blend_c1) (eNil))) (eC (.int 0)))
noncomputable def m__law_small_is_blend : Mir := runF 2 b__law_small_is_blend
/-! is_blend(blend): slots 0=blend 1=number -/
abbrev s_is_blend : Stmt := top 5
theorem sc_is_blend : FnScope ["blend", "number"] ["blend"] (defScope s_is_blend) := ⟨rfl, rfl, rfl, by decide +kernel, rfl, by decide +kernel, by decide +kernel⟩
noncomputable def is_blend_c1 : EE :=
    eLc (iSeq (eSl gSl (eV 0) (oSome (eC (.int 1))) (oNone))) (gD 1) (qYes) (eChain gLeI gLeI (eC (.int 0)) (eV 1) (eBin gIx (eV 0) (eC (.int 0)))) [1]
noncomputable def b_is_blend : SS :=
    sRet (eAnd (eBin gGeI (eBin gIx (eV 0) (eC (.int 0))) (eC (.int 0))) (eCB gAll (eCons (is_blend_c1) (eNil))))
noncomputable def m_is_blend : Mir := runF 2 b_is_blend
/-! _law_worth(claim, blend): slots 0=claim 1=blend 2=k -/
abbrev s__law_worth : Stmt := top 15
theorem sc__law_worth : FnScope ["claim", "blend", "k"] ["claim", "blend"] (defScope s__law_worth) := ⟨rfl, rfl, rfl, by decide +kernel, rfl, by decide +kernel, by decide +kernel⟩
noncomputable def _law_worth_c1 : EE :=
    eLc (iR1 (eCons (eCB gLen (eCons (eV 0) (eNil))) (eNil))) (gD 2) (qYes) (eBin gMul (eBin gIx (eV 0) (eV 2)) (eBin gIx (eV 1) (eV 2))) [2]
noncomputable def b__law_worth : SS :=
    sRet (eCB gSum (eCons (_law_worth_c1) (eNil)))
noncomputable def m__law_worth : Mir := runF 3 b__law_worth
/-! number_at(claim, blend): slots 0=claim 1=blend 2=one 3=other -/
abbrev s_number_at : Stmt := top 4
theorem sc_number_at : FnScope ["claim", "blend", "one", "other"] ["claim", "blend"] (defScope s_number_at) := ⟨rfl, rfl, rfl, by decide +kernel, rfl, by decide +kernel, by decide +kernel⟩
noncomputable def number_at_c1 : EE :=
    eLc (iZip2 (eCons (eV 0) (eCons (eV 1) (eNil)))) (gTupD (gConsD (gD 2) (gConsD (gD 3) (gNilD)))) (qYes) (eBin gMul (eV 2) (eV 3)) [2, 3]
noncomputable def b_number_at : SS :=
    sRet (eCB gSum (eCons (number_at_c1) (eNil)))
noncomputable def m_number_at : Mir := runF 4 b_number_at
/-! _law_same(actual, expected): slots 0=actual 1=expected 2=k -/
abbrev s__law_same : Stmt := top 9
theorem sc__law_same : FnScope ["actual", "expected", "k"] ["actual", "expected"] (defScope s__law_same) := ⟨rfl, rfl, rfl, by decide +kernel, rfl, by decide +kernel, by decide +kernel⟩
noncomputable def _law_same_b1 (m_rec : Mir) : SS :=
    sIf (qNot (qTru (eCall (m_rec) 2 (eCons (eBin gIx (eV 0) (eV 2)) (eCons (eBin gIx (eV 1) (eV 2)) (eNil)))))) (sRet (eC (.bl false))) (sSkip)
noncomputable def _law_same_l1 (m_rec : Mir) : SS :=
    sFor (iR1 (eCons (eCB gLen (eCons (eV 1) (eNil))) (eNil))) (gD 2) ((_law_same_b1 m_rec))
noncomputable def b__law_same (m_rec : Mir) : SS :=
    sSeq (sIf (qTru (eCB gIsi (eCons (eV 1) (eCons (eC (.ty "tuple")) (eNil))))) (sSeq (sIf (qOr (qNot (qTru (eCB gIsi (eCons (eV 0) (eCons (eC (.ty "tuple")) (eNil)))))) (qB (eBin (gEqD true) (eCB gLen (eCons (eV 0) (eNil))) (eCB gLen (eCons (eV 1) (eNil)))))) (sRet (eC (.bl false))) (sSkip))
    (sSeq ((_law_same_l1 m_rec))
    (sRet (eC (.bl true))))) (sSkip))
    (sSeq (sIf (qB (eBin (gIsN false) (eV 1) (eC .non))) (sRet (eBin (gIsN false) (eV 0) (eC .non))) (sSkip))
    (sSeq (sIf (qTru (eCB gIsi (eCons (eV 1) (eCons (eC (.ty "bool")) (eNil))))) (sRet (eAnd (eCB gIsi (eCons (eV 0) (eCons (eC (.ty "bool")) (eNil)))) (eBin (gEqD false) (eV 0) (eV 1)))) (sSkip))
    (sSeq (sIf (qTru (eCB gIsi (eCons (eV 1) (eCons (eC (.ty "str")) (eNil))))) (sRet (eAnd (eCB gIsi (eCons (eV 0) (eCons (eC (.ty "str")) (eNil)))) (eBin (gEqD false) (eV 0) (eV 1)))) (sSkip))
    (sRet (eAnd (eCB gIsi (eCons (eV 0) (eCons (eC (.ty "int")) (eNil)))) (eAnd (eNot (eCB gIsi (eCons (eV 0) (eCons (eC (.ty "bool")) (eNil))))) (eBin (gEqD false) (eV 0) (eV 1))))))))
noncomputable def m__law_same : Nat → Mir
  | 0 => fun _ => none
  | d + 1 => runF 3 (b__law_same (m__law_same d))
/-! _law_blend_of(filling): slots 0=filling 1=pair -/
abbrev s__law_blend_of : Stmt := top 16
theorem sc__law_blend_of : FnScope ["filling", "pair"] ["filling"] (defScope s__law_blend_of) := ⟨rfl, rfl, rfl, by decide +kernel, rfl, by decide +kernel, by decide +kernel⟩
noncomputable def _law_blend_of_c1 : EE :=
    eLc (iSeq (eV 0)) (gD 1) (qYes) (eBin gIx (eV 1) (eC (.int 1))) [1]
noncomputable def b__law_blend_of : SS :=
    sRet (eCB gTuple (eCons (eBin gAdd (eLst (eCons (eC (.int 1)) (eNil))) (_law_blend_of_c1)) (eNil)))
noncomputable def m__law_blend_of : Mir := runF 2 b__law_blend_of
/-! filling_blend(filling): slots 0=filling 1=_ 2=value -/
abbrev s_filling_blend : Stmt := top 7
theorem sc_filling_blend : FnScope ["filling", "_", "value"] ["filling"] (defScope s_filling_blend) := ⟨rfl, rfl, rfl, by decide +kernel, rfl, by decide +kernel, by decide +kernel⟩
noncomputable def filling_blend_c1 : EE :=
    eLc (iSeq (eV 0)) (gTupD (gConsD (gD 1) (gConsD (gD 2) (gNilD)))) (qYes) (eV 2) [1, 2]
noncomputable def b_filling_blend : SS :=
    sRet (eBin gAdd (eTup (eCons (eC (.int 1)) (eNil))) (eCB gTuple (eCons (filling_blend_c1) (eNil))))
noncomputable def m_filling_blend : Mir := runF 3 b_filling_blend
/-! _law_pair_claim(name, answer, names): slots 0=name 1=answer 2=names 3=numbers 4=k -/
abbrev s__law_pair_claim : Stmt := top 13
theorem sc__law_pair_claim : FnScope ["name", "answer", "names", "numbers", "k"] ["name", "answer", "names"] (defScope s__law_pair_claim) := ⟨rfl, rfl, rfl, by decide +kernel, rfl, by decide +kernel, by decide +kernel⟩
noncomputable def _law_pair_claim_c1 : EE :=
    eLc (iR1 (eCons (eV 2) (eNil))) (gD 4) (qYes) (eC (.int 0)) [4]
noncomputable def b__law_pair_claim : SS :=
    sSeq (sAsg (eOwn (eBin gAdd (eLst (eCons (eBin gSubI (eC (.int 1)) (eV 1)) (eNil))) (_law_pair_claim_c1))) (gD 3))
    (sSeq (sAsg (eBin gSubI (eBin gMul (eC (.int 2)) (eV 1)) (eC (.int 1))) (gSub (eV 3) (eV 0)))
    (sRet (eCB gTuple (eCons (eV 3) (eNil)))))
noncomputable def m__law_pair_claim : Mir := runF 5 b__law_pair_claim
/-! pair_claim(names, name, answer): slots 0=names 1=name 2=answer 3=numbers -/
abbrev s_pair_claim : Stmt := top 2
theorem sc_pair_claim : FnScope ["names", "name", "answer", "numbers"] ["names", "name", "answer"] (defScope s_pair_claim) := ⟨rfl, rfl, rfl, by decide +kernel, rfl, by decide +kernel, by decide +kernel⟩
noncomputable def b_pair_claim : SS :=
    sSeq (sAsg (eOwn (eBin gMul (eLst (eCons (eC (.int 0)) (eNil))) (eBin gAdd (eV 0) (eC (.int 1))))) (gD 3))
    (sSeq (sAsg (eBin gSubI (eC (.int 1)) (eV 2)) (gSub (eV 3) (eC (.int 0))))
    (sSeq (sAsg (eBin gSubI (eBin gMul (eC (.int 2)) (eV 2)) (eC (.int 1))) (gSub (eV 3) (eV 1)))
    (sRet (eCB gTuple (eCons (eV 3) (eNil))))))
noncomputable def m_pair_claim : Mir := runF 4 b_pair_claim
/-! _law_wish_claim(wish, names): slots 0=wish 1=names 2=numbers 3=word 4=k -/
abbrev s__law_wish_claim : Stmt := top 12
theorem sc__law_wish_claim : FnScope ["wish", "names", "numbers", "word", "k"] ["wish", "names"] (defScope s__law_wish_claim) := ⟨rfl, rfl, rfl, by decide +kernel, rfl, by decide +kernel, by decide +kernel⟩
noncomputable def _law_wish_claim_b1 : SS :=
    sSeq (sAsg (eBin gSubI (eBin gMul (eC (.int 2)) (eBin gIx (eV 3) (eC (.int 1)))) (eC (.int 1))) (gSub (eV 2) (eBin gIx (eV 3) (eC (.int 0)))))
    (sAsg (eBin gSubI (eBin gAdd (eBin gIx (eV 2) (eC (.int 0))) (eC (.int 1))) (eBin gIx (eV 3) (eC (.int 1)))) (gSub (eV 2) (eC (.int 0))))
noncomputable def _law_wish_claim_l1 : SS :=
    sFor (iSeq (eV 0)) (gD 3) (_law_wish_claim_b1)
noncomputable def _law_wish_claim_c1 : EE :=
    eLc (iR1 (eCons (eV 1) (eNil))) (gD 4) (qYes) (eC (.int 0)) [4]
noncomputable def b__law_wish_claim : SS :=
    sSeq (sAsg (eOwn (eBin gAdd (eLst (eCons (eBin gSubI (eC (.int 0)) (eC (.int 1))) (eNil))) (_law_wish_claim_c1))) (gD 2))
    (sSeq (_law_wish_claim_l1)
    (sRet (eCB gTuple (eCons (eV 2) (eNil)))))
noncomputable def m__law_wish_claim : Mir := runF 5 b__law_wish_claim
/-! wish_claim(names, wish): slots 0=names 1=wish 2=numbers 3=name 4=value -/
abbrev s_wish_claim : Stmt := top 3
theorem sc_wish_claim : FnScope ["names", "wish", "numbers", "name", "value"] ["names", "wish"] (defScope s_wish_claim) := ⟨rfl, rfl, rfl, by decide +kernel, rfl, by decide +kernel, by decide +kernel⟩
noncomputable def wish_claim_b1 : SS :=
    sSeq (sAugS (eV 2) (eC (.int 0)) gAddI (eBin gSubI (eC (.int 1)) (eV 4)))
    (sAsg (eBin gSubI (eBin gMul (eC (.int 2)) (eV 4)) (eC (.int 1))) (gSub (eV 2) (eV 3)))
noncomputable def wish_claim_l1 : SS :=
    sFor (iSeq (eV 1)) (gTupD (gConsD (gD 3) (gConsD (gD 4) (gNilD)))) (wish_claim_b1)
noncomputable def b_wish_claim : SS :=
    sSeq (sAsg (eOwn (eBin gMul (eLst (eCons (eC (.int 0)) (eNil))) (eBin gAdd (eV 0) (eC (.int 1))))) (gD 2))
    (sSeq (sAsg (eUn gNeg (eC (.int 1))) (gSub (eV 2) (eC (.int 0))))
    (sSeq (wish_claim_l1)
    (sRet (eCB gTuple (eCons (eV 2) (eNil))))))
noncomputable def m_wish_claim : Mir := runF 5 b_wish_claim
/-! _law_nothing(names): slots 0=names 1=k -/
abbrev s__law_nothing : Stmt := top 14
theorem sc__law_nothing : FnScope ["names", "k"] ["names"] (defScope s__law_nothing) := ⟨rfl, rfl, rfl, by decide +kernel, rfl, by decide +kernel, by decide +kernel⟩
noncomputable def _law_nothing_c1 : EE :=
    eLc (iR1 (eCons (eV 0) (eNil))) (gD 1) (qYes) (eC (.int 0)) [1]
noncomputable def b__law_nothing : SS :=
    sRet (eCB gTuple (eCons (eBin gAdd (eLst (eCons (eBin gSubI (eC (.int 0)) (eC (.int 1))) (eNil))) (_law_nothing_c1)) (eNil)))
noncomputable def m__law_nothing : Mir := runF 2 b__law_nothing
/-! nothing(names): slots 0=names -/
abbrev s_nothing : Stmt := top 1
theorem sc_nothing : FnScope ["names"] ["names"] (defScope s_nothing) := ⟨rfl, rfl, rfl, by decide +kernel, rfl, by decide +kernel, by decide +kernel⟩
noncomputable def b_nothing : SS :=
    sRet (eBin gAdd (eTup (eCons (eUn gNeg (eC (.int 1))) (eNil))) (eBin gMul (eTup (eCons (eC (.int 0)) (eNil))) (eV 0)))
noncomputable def m_nothing : Mir := runF 1 b_nothing
/-! _law_cell(script, k): slots 0=script 1=k -/
abbrev s__law_cell : Stmt := top 10
theorem sc__law_cell : FnScope ["script", "k"] ["script", "k"] (defScope s__law_cell) := ⟨rfl, rfl, rfl, by decide +kernel, rfl, by decide +kernel, by decide +kernel⟩
noncomputable def b__law_cell : SS :=
    sSeq (sIf (qB (eBin gLtI (eV 1) (eCB gLen (eCons (eV 0) (eNil))))) (sRet (eBin gIx (eV 0) (eV 1))) (sSkip))
    (sRet (eC (.int 0)))
noncomputable def m__law_cell : Mir := runF 2 b__law_cell
/-! _law_draws(cell, many): slots 0=cell 1=many 2=draws 3=rest 4=k 5=state 6=other -/
abbrev s__law_draws : Stmt := top 11
theorem sc__law_draws : FnScope ["cell", "many", "draws", "rest", "k", "state", "other"] ["cell", "many"] (defScope s__law_draws) := ⟨rfl, rfl, rfl, by decide +kernel, rfl, by decide +kernel, by decide +kernel⟩
noncomputable def _law_draws_b1 : SS :=
    sSeq (sAsg (eOwn (eBin gModI (eCB gInt (eCons (eBin gAdd (eBin gAdd (eBin gMul (eV 5) (eC (.int 48271))) (eBin gMul (eC (.int 12345)) (eV 4))) (eC (.int 7))) (eNil))) (eC (.int 2147483647)))) (gD 5))
    (sSeq (sAsg (eOwn (eBin gModI (eCB gInt (eCons (eBin gAdd (eBin gMul (eV 5) (eC (.int 69621))) (eV 4)) (eNil))) (eC (.int 1000003)))) (gD 6))
    (sDrop (eMu muAppend (eV 2) (eCons (eBin gModI (eBin gDivI (eV 6) (eC (.int 3))) (eC (.int 60))) (eNil)))))
noncomputable def _law_draws_l1 : SS :=
    sFor (iR1 (eCons (eV 1) (eNil))) (gD 4) (_law_draws_b1)
noncomputable def _law_draws_b2 : SS :=
    sSeq (sDrop (eMu muAppend (eV 2) (eCons (eBin gModI (eV 3) (eC (.int 60))) (eNil))))
    (sAsg (eOwn (eBin gDivI (eV 3) (eC (.int 60)))) (gD 3))
noncomputable def _law_draws_l2 : SS :=
    sFor (iR1 (eCons (eV 1) (eNil))) (gD 4) (_law_draws_b2)
noncomputable def b__law_draws : SS :=
    sSeq (sAsg (eOwn (eLst (eNil))) (gD 2))
    (sSeq (sAsg (eOwn (eCB gAbs (eCons (eV 0) (eNil)))) (gD 3))
    (sSeq (sIf (qB (eBin gGeI (eV 3) (eBin gPowI (eC (.int 10)) (eC (.int 18))))) (sSeq (_law_draws_l2)
    (sRet (eV 2))) (sSkip))
    (sSeq (sAsg (eOwn (eBin gAdd (eV 3) (eC (.int 17)))) (gD 5))
    (sSeq (_law_draws_l1)
    (sRet (eV 2))))))
noncomputable def m__law_draws : Mir := runF 7 b__law_draws
/-! _law_claim(cell, names): slots 0=cell 1=names 2=draws 3=numbers 4=k 5=number -/
abbrev s__law_claim : Stmt := top 18
theorem sc__law_claim : FnScope ["cell", "names", "draws", "numbers", "k", "number"] ["cell", "names"] (defScope s__law_claim) := ⟨rfl, rfl, rfl, by decide +kernel, rfl, by decide +kernel, by decide +kernel⟩
noncomputable def _law_claim_b1 : SS :=
    sSeq (sAsg (eOwn (eBin gSubI (eBin gModI (eBin gIx (eV 2) (eBin gMul (eC (.int 2)) (eV 4))) (eC (.int 7))) (eC (.int 3)))) (gD 5))
    (sSeq (sIf (qB (eBin (gEqD false) (eBin gIx (eV 2) (eBin gAdd (eBin gMul (eC (.int 2)) (eV 4)) (eC (.int 1)))) (eC (.int 7)))) (sAsg (eOwn (eBin gMul (eV 5) (eBin gPowI (eC (.int 10)) (eC (.int 29))))) (gD 5)) (sSkip))
    (sDrop (eMu muAppend (eV 3) (eCons (eV 5) (eNil)))))
noncomputable def _law_claim_l1 : SS :=
    sFor (iR1 (eCons (eBin gAdd (eV 1) (eC (.int 1))) (eNil))) (gD 4) (_law_claim_b1)
noncomputable def b__law_claim : SS :=
    sSeq (sAsg (eOwn (eCall (m__law_draws) 2 (eCons (eV 0) (eCons (eBin gAdd (eBin gMul (eC (.int 2)) (eV 1)) (eC (.int 2))) (eNil))))) (gD 2))
    (sSeq (sAsg (eOwn (eLst (eNil))) (gD 3))
    (sSeq (_law_claim_l1)
    (sRet (eCB gTuple (eCons (eV 3) (eNil))))))
noncomputable def m__law_claim : Mir := runF 6 b__law_claim
/-! law(script): slots 0=script 1=first 2=names 3=one 4=two 5=draws 6=wish 7=claim 8=name 9=answer 10=filling 11=blend 12=met 13=row 14=some 15=factor 16=other 17=large 18=spoilt 19=pairs 20=pair 21=k 22=word 23=number -/
abbrev s_law : Stmt := top 21
theorem sc_law : FnScope ["script", "first", "names", "one", "two", "draws", "wish", "claim", "name", "answer", "filling", "blend", "met", "row", "some", "factor", "other", "large", "spoilt", "pairs", "pair", "k", "word", "number"] ["script"] (defScope s_law) := ⟨rfl, rfl, rfl, by decide +kernel, rfl, by decide +kernel, by decide +kernel⟩
noncomputable def law_b1 : SS :=
    sIf (qNot (qTru (eCall (m__law_bools) 2 (eCons (eCall (m_is_multiple) 2 (eCons (eBin gIx (eV 20) (eC (.int 0))) (eCons (eBin gIx (eV 20) (eC (.int 1))) (eNil)))) (eCons (eCall (m__law_multiple) 2 (eCons (eBin gIx (eV 20) (eC (.int 0))) (eCons (eBin gIx (eV 20) (eC (.int 1))) (eNil)))) (eNil)))))) (sRet (eC (.bl false))) (sSkip)
noncomputable def law_l1 : SS :=
    sFor (iSeq (eV 19)) (gD 20) (law_b1)
noncomputable def law_c1 : EE :=
    eLc (iSeq (eV 3)) (gD 23) (qYes) (eC (.int 0)) [23]
noncomputable def law_s25 : SS :=
    sAsg (eOwn (eBin gAdd (eV 19) (eLst (eCons (eTup (eCons (eV 16) (eCons (eCB gTuple (eCons (law_c1) (eNil))) (eNil)))) (eNil))))) (gD 19)
noncomputable def law_c2 : EE :=
    eLc (iSeq (eV 3)) (gD 23) (qYes) (eC (.int 0)) [23]
noncomputable def law_c3 : EE :=
    eLc (iSeq (eV 3)) (gD 23) (qYes) (eBin gSubI (eC (.int 0)) (eV 23)) [23]
noncomputable def law_s24 : SS :=
    sAsg (eOwn (eBin gAdd (eV 19) (eLst (eCons (eTup (eCons (eCB gTuple (eCons (law_c3) (eNil))) (eCons (eV 16) (eNil)))) (eCons (eTup (eCons (eCB gTuple (eCons (law_c2) (eNil))) (eCons (eV 16) (eNil)))) (eNil)))))) (gD 19)
noncomputable def law_s23 : SS :=
    sAsg (eOwn (eLst (eCons (eTup (eCons (eV 17) (eCons (eV 16) (eNil)))) (eCons (eTup (eCons (eV 16) (eCons (eV 17) (eNil)))) (eCons (eTup (eCons (eCB gTuple (eCons (eV 18) (eNil))) (eCons (eV 16) (eNil)))) (eCons (eTup (eCons (eV 16) (eCons (eCB gTuple (eCons (eV 18) (eNil))) (eNil)))) (eCons (eTup (eCons (eV 3) (eCons (eV 4) (eNil)))) (eCons (eTup (eCons (eV 7) (eCons (eV 3) (eNil)))) (eNil))))))))) (gD 19)
noncomputable def law_s22 : SS :=
    sAsg (eBin gSubI (eBin gAdd (eBin gIx (eV 18) (eBin gModI (eBin gIx (eV 5) (eC (.int 42))) (eCB gLen (eCons (eV 18) (eNil))))) (eC (.int 1))) (eBin gMul (eC (.int 2)) (eBin gModI (eBin gIx (eV 5) (eC (.int 39))) (eC (.int 2))))) (gSub (eV 18) (eBin gModI (eBin gIx (eV 5) (eC (.int 42))) (eCB gLen (eCons (eV 18) (eNil)))))
noncomputable def law_c4 : EE :=
    eLc (iSeq (eV 17)) (gD 23) (qYes) (eV 23) [23]
noncomputable def law_s21 : SS :=
    sAsg (eOwn law_c4) (gD 18)
noncomputable def law_c5 : EE :=
    eLc (iSeq (eV 3)) (gD 23) (qYes) (eBin gMul (eV 15) (eV 23)) [23]
noncomputable def law_s20 : SS :=
    sAsg (eOwn (eCB gTuple (eCons (law_c5) (eNil)))) (gD 17)
noncomputable def law_c6 : EE :=
    eLc (iSeq (eV 3)) (gD 23) (qYes) (eBin gMul (eBin gAdd (eC (.int 1)) (eBin gModI (eBin gIx (eV 5) (eC (.int 41))) (eC (.int 3)))) (eV 23)) [23]
noncomputable def law_s19 : SS :=
    sAsg (eOwn (eCB gTuple (eCons (law_c6) (eNil)))) (gD 16)
noncomputable def law_s18 : SS :=
    sAsg (eOwn (eBin gAdd (eC (.int 1)) (eBin gModI (eBin gIx (eV 5) (eC (.int 40))) (eC (.int 9))))) (gD 15)
noncomputable def law_c7 : EE :=
    eLc (iSeq (eSl gSl (eV 3) (oSome (eC (.int 1))) (oNone))) (gD 23) (qYes) (eBin gModI (eV 23) (eC (.int 6))) [23]
noncomputable def law_b2 : SS :=
    sIf (qNot (qTru (eCall (m__law_bools) 2 (eCons (eCall (m_is_blend) 1 (eCons (eV 14) (eNil))) (eCons (eCall (m__law_small_is_blend) 1 (eCons (eV 14) (eNil))) (eNil)))))) (sRet (eC (.bl false))) (sSkip)
noncomputable def law_l2 : SS :=
    sFor (iSeq (eTup (eCons (eV 13) (eCons (eV 4) (eCons (eCB gTuple (eCons (eBin gAdd (eLst (eCons (eC (.int 5)) (eNil))) (law_c7)) (eNil))) (eNil)))))) (gD 14) (law_b2)
noncomputable def law_c8 : EE :=
    eLc (iR1 (eCons (eV 2) (eNil))) (gD 21) (qYes) (eBin gModI (eBin gDivI (eBin gIx (eV 5) (eV 21)) (eC (.int 4))) (eC (.int 4))) [21]
noncomputable def law_s16 : SS :=
    sAsg (eOwn (eCB gTuple (eCons (eBin gAdd (eLst (eCons (eBin gModI (eBin gIx (eV 5) (eC (.int 43))) (eC (.int 4))) (eNil))) (law_c8)) (eNil)))) (gD 13)
noncomputable def law_s15 : SS :=
    sIf (qOr (qNot (qTru (eCall (m__law_same 3) 2 (eCons (eCall (m_number_at) 2 (eCons (eV 7) (eCons (eV 11) (eNil)))) (eCons (eBin gSubI (eV 12) (eC (.int 1))) (eNil)))))) (qNot (qTru (eCall (m__law_same 3) 2 (eCons (eCall (m_number_at) 2 (eCons (eV 3) (eCons (eV 4) (eNil)))) (eCons (eCall (m__law_worth) 2 (eCons (eV 3) (eCons (eV 4) (eNil)))) (eNil))))))) (sRet (eC (.bl false))) (sSkip)
noncomputable def law_c9 : EE :=
    eLc (iSeq (eV 6)) (gD 22) (qB (eBin (gInD false) (eV 22) (eV 10))) (eV 22) [22]
noncomputable def law_s14 : SS :=
    sAsg (eOwn (eCB gLen (eCons (law_c9) (eNil)))) (gD 12)
noncomputable def law_s13 : SS :=
    sIf (qOr (qNot (qTru (eCall (m__law_same 3) 2 (eCons (eV 11) (eCons (eCall (m__law_blend_of) 1 (eCons (eV 10) (eNil))) (eNil)))))) (qNot (qTru (eCall (m__law_bools) 2 (eCons (eCall (m_is_blend) 1 (eCons (eV 11) (eNil))) (eCons (eC (.bl true)) (eNil))))))) (sRet (eC (.bl false))) (sSkip)
noncomputable def law_s12 : SS :=
    sAsg (eOwn (eCall (m_filling_blend) 1 (eCons (eV 10) (eNil)))) (gD 11)
noncomputable def law_c10 : EE :=
    eLc (iR1 (eCons (eV 2) (eNil))) (gD 21) (qYes) (eTup (eCons (eBin gAdd (eV 21) (eC (.int 1))) (eCons (eBin gModI (eBin gDivI (eBin gIx (eV 5) (eV 21)) (eC (.int 2))) (eC (.int 2))) (eNil)))) [21]
noncomputable def law_s11 : SS :=
    sAsg (eOwn (eCB gTuple (eCons (law_c10) (eNil)))) (gD 10)
noncomputable def law_b3 : SS :=
    sIf (qNot (qTru (eCall (m__law_same 3) 2 (eCons (eCall (m_pair_claim) 3 (eCons (eV 2) (eCons (eV 8) (eCons (eV 9) (eNil))))) (eCons (eCall (m__law_pair_claim) 3 (eCons (eV 8) (eCons (eV 9) (eCons (eV 2) (eNil))))) (eNil)))))) (sRet (eC (.bl false))) (sSkip)
noncomputable def law_l3 : SS :=
    sFor (iR1 (eCons (eC (.int 2)) (eNil))) (gD 9) (law_b3)
noncomputable def law_b4 : SS :=
    law_l3
noncomputable def law_l4 : SS :=
    sFor (iR2 (eCons (eC (.int 1)) (eCons (eBin gAdd (eV 2) (eC (.int 1))) (eNil)))) (gD 8) (law_b4)
noncomputable def law_s9 : SS :=
    sIf (qNot (qTru (eCall (m__law_same 3) 2 (eCons (eV 7) (eCons (eCall (m__law_wish_claim) 2 (eCons (eV 6) (eCons (eV 2) (eNil)))) (eNil)))))) (sRet (eC (.bl false))) (sSkip)
noncomputable def law_s8 : SS :=
    sAsg (eOwn (eCall (m_wish_claim) 2 (eCons (eV 2) (eCons (eV 6) (eNil))))) (gD 7)
noncomputable def law_c11 : EE :=
    eLc (iR1 (eCons (eV 2) (eNil))) (gD 21) (qB (eBin gGtI (eBin gModI (eBin gIx (eV 5) (eV 21)) (eC (.int 5))) (eC (.int 0)))) (eTup (eCons (eBin gAdd (eV 21) (eC (.int 1))) (eCons (eBin gModI (eBin gIx (eV 5) (eV 21)) (eC (.int 2))) (eNil)))) [21]
noncomputable def law_s7 : SS :=
    sAsg (eOwn (eCB gTuple (eCons (law_c11) (eNil)))) (gD 6)
noncomputable def law_s6 : SS :=
    sIf (qNot (qTru (eCall (m__law_same 3) 2 (eCons (eCall (m_nothing) 1 (eCons (eV 2) (eNil))) (eCons (eCall (m__law_nothing) 1 (eCons (eV 2) (eNil))) (eNil)))))) (sRet (eC (.bl false))) (sSkip)
noncomputable def law_s5 : SS :=
    sAsg (eOwn (eCall (m__law_draws) 2 (eCons (eCB gAbs (eCons (eCall (m__law_cell) 2 (eCons (eV 0) (eCons (eC (.int 3)) (eNil)))) (eNil))) (eCons (eC (.int 44)) (eNil))))) (gD 5)
noncomputable def law_s4 : SS :=
    sAsg (eOwn (eCall (m__law_claim) 2 (eCons (eCB gAbs (eCons (eCall (m__law_cell) 2 (eCons (eV 0) (eCons (eC (.int 2)) (eNil)))) (eNil))) (eCons (eV 2) (eNil))))) (gD 4)
noncomputable def law_s3 : SS :=
    sAsg (eOwn (eCall (m__law_claim) 2 (eCons (eCB gAbs (eCons (eCall (m__law_cell) 2 (eCons (eV 0) (eCons (eC (.int 1)) (eNil)))) (eNil))) (eCons (eV 2) (eNil))))) (gD 3)
noncomputable def law_s2 : SS :=
    sAsg (eOwn (eIf (qB (eBin (gEqD false) (eBin gModI (eBin gDivI (eV 1) (eC (.int 41))) (eC (.int 3))) (eC (.int 0)))) (eBin gModI (eV 1) (eC (.int 41))) (eBin gModI (eBin gDivI (eV 1) (eC (.int 41))) (eC (.int 5))))) (gD 2)
noncomputable def law_s1 : SS :=
    sAsg (eOwn (eCB gAbs (eCons (eCall (m__law_cell) 2 (eCons (eV 0) (eCons (eC (.int 0)) (eNil)))) (eNil)))) (gD 1)
noncomputable def b_law : SS :=
    sSeq (law_s1)
    (sSeq (law_s2)
    (sSeq (law_s3)
    (sSeq (law_s4)
    (sSeq (law_s5)
    (sSeq (law_s6)
    (sSeq (law_s7)
    (sSeq (law_s8)
    (sSeq (law_s9)
    (sSeq (law_l4)
    (sSeq (law_s11)
    (sSeq (law_s12)
    (sSeq (law_s13)
    (sSeq (law_s14)
    (sSeq (law_s15)
    (sSeq (law_s16)
    (sSeq (law_l2)
    (sSeq (law_s18)
    (sSeq (law_s19)
    (sSeq (law_s20)
    (sSeq (law_s21)
    (sSeq (law_s22)
    (sSeq (law_s23)
    (sSeq (law_s24)
    (sSeq (law_s25)
    (sSeq (law_l1)
    (sRet (eC (.bl true))))))))))))))))))))))))))))
noncomputable def m_law : Mir := runF 24 b_law
section
variable {P : Program} {w : World} {K : PySem.W.Frag} {mg : Mg} {base : Heap}
theorem body__law_multiple (B : Bi mg) : Body P w K mg base 0 ["claim", "goal", "found", "at", "k", "number"] "_law_multiple" s__law_multiple b__law_multiple := fun f cdv A outer s H E hr =>
    ps_cons (ps_assignLc (own := [("k", 4)]) 2 rfl sc__law_multiple.nd (pid_range1 B.b_range (pd_cons (pd_callB cd_len (by rfl) B.b_len bo_len (pd_cons (pd_var 1) (pd_nil))) (pd_nil))) (blkOk_by (N := ["claim", "goal", "found", "at", "k", "number"]) (sc := defScope s__law_multiple) (by decide +kernel)) (fun _ _ _ _ _ => pgd_name 4 sc__law_multiple.nd) (by decide) (fun _ _ _ _ _ => pts_1 (pq_cmp (od_neD hr.units) (pd_ix xd_ix (pd_var 1) (pd_var 4) (fun _ _ => rfl)) (pd_int) (nomark _))) (fun _ _ _ _ _ => pd_var 4) (sw_true rfl rfl rfl (by decide +kernel)))
    (ps_cons (ps_iff (pq_cmp (od_eqD hr.units) (pd_callB cd_len (by rfl) B.b_len bo_len (pd_cons (pd_var 2) (pd_nil))) (pd_int) (nomark _)) (ps_one (ps_return (pd_cmp (od_eqD hr.units) (pd_callB cd_len (by rfl) B.b_len bo_len (pd_cons (pd_lc (own := [("number", 5)]) rfl sc__law_multiple.nd (pid_seq (pd_var 0)) (blkOk_by (N := ["claim", "goal", "found", "at", "k", "number"]) (sc := defScope s__law_multiple) (by decide +kernel)) (fun _ _ _ _ _ => pgd_name 5 sc__law_multiple.nd) (by decide) (fun _ _ _ _ _ => pts_1 (pq_cmp (od_neD hr.units) (pd_var 5) (pd_int) (nomark _))) (fun _ _ _ _ _ => pd_var 5)) (pd_nil))) (pd_int) (nomark _)))) (ps_nil))
    (ps_cons (ps_assign (pd_own (pd_ix xd_ix (pd_var 2) (pd_int) (fun _ _ => rfl))) (pgd_name 3 sc__law_multiple.nd))
    (ps_cons (ps_iff (pq_cmp od_leI (pd_bin od_mul (pd_ix xd_ix (pd_var 0) (pd_var 3) (fun _ _ => rfl)) (pd_ix xd_ix (pd_var 1) (pd_var 3) (fun _ _ => rfl))) (pd_int) (nomark _)) (ps_one (ps_return (pd_bl))) (ps_nil))
    (ps_one (ps_return (pd_cmp (od_eqD hr.units) (pd_callB cd_len (by rfl) B.b_len bo_len (pd_cons (pd_lc (own := [("k", 4)]) rfl sc__law_multiple.nd (pid_range1 B.b_range (pd_cons (pd_callB cd_len (by rfl) B.b_len bo_len (pd_cons (pd_var 1) (pd_nil))) (pd_nil))) (blkOk_by (N := ["claim", "goal", "found", "at", "k", "number"]) (sc := defScope s__law_multiple) (by decide +kernel)) (fun _ _ _ _ _ => pgd_name 4 sc__law_multiple.nd) (by decide) (fun _ _ _ _ _ => pts_1 (pq_cmp (od_neD hr.units) (pd_bin od_mul (pd_ix xd_ix (pd_var 0) (pd_var 4) (fun _ _ => rfl)) (pd_ix xd_ix (pd_var 1) (pd_var 3) (fun _ _ => rfl))) (pd_bin od_mul (pd_ix xd_ix (pd_var 1) (pd_var 4) (fun _ _ => rfl)) (pd_ix xd_ix (pd_var 0) (pd_var 3) (fun _ _ => rfl))) (nomark _))) (fun _ _ _ _ _ => pd_var 4)) (pd_nil))) (pd_int) (nomark _)))))))
theorem body_is_multiple (B : Bi mg) : Body P w K mg base 0 ["claim", "goal", "one", "first", "other", "second"] "is_multiple" s_is_multiple b_is_multiple := fun f cdv A outer s H E hr =>
    ps_cons (ps_loop (passes_of rfl) rfl (pid_zip B.b_zip (pd_cons (pd_var 0) (pd_cons (pd_var 1) (pd_nil)))) (pgd_tup 2 rfl (pgd_cons (pgd_name 2 sc_is_multiple.nd) (pgd_cons (pgd_name 3 sc_is_multiple.nd) (pgd_nil))) (gConsD_len (gConsD_len (gNilD_len)))) (ps_one (ps_loop (passes_of rfl) rfl (pid_zip B.b_zip (pd_cons (pd_var 0) (pd_cons (pd_var 1) (pd_nil)))) (pgd_tup 2 rfl (pgd_cons (pgd_name 4 sc_is_multiple.nd) (pgd_cons (pgd_name 5 sc_is_multiple.nd) (pgd_nil))) (gConsD_len (gConsD_len (gNilD_len)))) (ps_one (ps_iff (pq_cmp (od_neD hr.units) (pd_bin od_mul (pd_var 2) (pd_var 5)) (pd_bin od_mul (pd_var 4) (pd_var 3)) (nomark _)) (ps_one (ps_return (pd_bl))) (ps_nil))))))
    (ps_one (ps_return (pd_callB (cd_all rfl) (by rfl) B.b_all bo_all (pd_cons (pd_lc (own := [("one", 2), ("first", 3)]) rfl sc_is_multiple.nd (pid_zip B.b_zip (pd_cons (pd_var 0) (pd_cons (pd_var 1) (pd_nil)))) (blkOk_by (N := ["claim", "goal", "one", "first", "other", "second"]) (sc := defScope s_is_multiple) (by decide +kernel)) (fun _ _ _ _ _ => pgd_tup 2 rfl (pgd_cons (pgd_name 2 sc_is_multiple.nd) (pgd_cons (pgd_name 3 sc_is_multiple.nd) (pgd_nil))) (gConsD_len (gConsD_len (gNilD_len)))) (by decide) (fun _ _ _ _ _ => pts_none) (fun _ _ _ _ _ => pd_or (pd_cmp od_gtI (pd_bin od_mul (pd_var 2) (pd_var 3)) (pd_int) (nomark _)) (pd_one (pd_chain (od_eqD hr.units) (od_eqD hr.units) (pd_var 2) (pd_var 3) (pd_int))))) (pd_nil)))))
theorem body__law_bools (B : Bi mg) : Body P w K mg base 0 ["told", "expected"] "_law_bools" s__law_bools b__law_bools := fun f cdv A outer s H E hr =>
    ps_one (ps_return (pd_and (pd_callB cd_isi (by rfl) B.b_isinstance bo_isinstance (pd_cons (pd_var 0) (pd_cons (pd_ty (by rfl) B.b_bool bo_bool) (pd_nil)))) (pd_one (pd_cmp (od_eqD hr.units) (pd_var 0) (pd_var 1) (nomark _)))))
theorem body__law_small_is_blend (B : Bi mg) : Body P w K mg base 0 ["row", "number"] "_law_small_is_blend" s__law_small_is_blend b__law_small_is_blend := fun f cdv A outer s H E hr =>
    ps_one (ps_return (pd_cmp (od_eqD hr.units) (pd_callB cd_len (by rfl) B.b_len bo_len (pd_cons (pd_lc (own := [("number", 1)]) rfl sc__law_small_is_blend.nd (pid_seq (pd_var 0)) (blkOk_by (N := ["row", "number"]) (sc := defScope s__law_small_is_blend) (by decide +kernel)) (fun _ _ _ _ _ => pgd_name 1 sc__law_small_is_blend.nd) (by decide) (fun _ _ _ _ _ => pts_1 (PW.pt (pq_or (pq_cmp od_ltI (pd_var 1) (pd_int) (nomark _)) (pq_or1 (pq_cmp od_gtI (pd_var 1) (pd_ix xd_ix (pd_var 0) (pd_int) (fun _ _ => rfl)) (nomark _)))))) (fun _ _ _ _ _ => pd_var 1)) (pd_nil))) (pd_int) (nomark _)))
theorem body_is_blend (B : Bi mg) : Body P w K mg base 0 ["blend", "number"] "is_blend" s_is_blend b_is_blend := fun f cdv A outer s H E hr =>
    ps_one (ps_return (pd_and (pd_cmp od_geI (pd_ix xd_ix (pd_var 0) (pd_int) (fun _ _ => rfl)) (pd_int) (nomark _)) (pd_one (pd_callB (cd_all rfl) (by rfl) B.b_all bo_all (pd_cons (pd_lc (own := [("number", 1)]) rfl sc_is_blend.nd (pid_seq (pd_slice sd_sl (pd_var 0) (pd_osome (pd_int)) (pd_onone))) (blkOk_by (N := ["blend", "number"]) (sc := defScope s_is_blend) (by decide +kernel)) (fun _ _ _ _ _ => pgd_name 1 sc_is_blend.nd) (by decide) (fun _ _ _ _ _ => pts_none) (fun _ _ _ _ _ => pd_chain od_leI od_leI (pd_int) (pd_var 1) (pd_ix xd_ix (pd_var 0) (pd_int) (fun _ _ => rfl)))) (pd_nil))))))
theorem body__law_worth (B : Bi mg) : Body P w K mg base 0 ["claim", "blend", "k"] "_law_worth" s__law_worth b__law_worth := fun f cdv A outer s H E hr =>
    ps_one (ps_return (pd_callB (cd_sum rfl) (by rfl) B.b_sum bo_sum (pd_cons (pd_lc (own := [("k", 2)]) rfl sc__law_worth.nd (pid_range1 B.b_range (pd_cons (pd_callB cd_len (by rfl) B.b_len bo_len (pd_cons (pd_var 0) (pd_nil))) (pd_nil))) (blkOk_by (N := ["claim", "blend", "k"]) (sc := defScope s__law_worth) (by decide +kernel)) (fun _ _ _ _ _ => pgd_name 2 sc__law_worth.nd) (by decide) (fun _ _ _ _ _ => pts_none) (fun _ _ _ _ _ => pd_bin od_mul (pd_ix xd_ix (pd_var 0) (pd_var 2) (fun _ _ => rfl)) (pd_ix xd_ix (pd_var 1) (pd_var 2) (fun _ _ => rfl)))) (pd_nil))))
theorem body_number_at (B : Bi mg) : Body P w K mg base 0 ["claim", "blend", "one", "other"] "number_at" s_number_at b_number_at := fun f cdv A outer s H E hr =>
    ps_one (ps_return (pd_callB (cd_sum rfl) (by rfl) B.b_sum bo_sum (pd_cons (pd_lc (own := [("one", 2), ("other", 3)]) rfl sc_number_at.nd (pid_zip B.b_zip (pd_cons (pd_var 0) (pd_cons (pd_var 1) (pd_nil)))) (blkOk_by (N := ["claim", "blend", "one", "other"]) (sc := defScope s_number_at) (by decide +kernel)) (fun _ _ _ _ _ => pgd_tup 2 rfl (pgd_cons (pgd_name 2 sc_number_at.nd) (pgd_cons (pgd_name 3 sc_number_at.nd) (pgd_nil))) (gConsD_len (gConsD_len (gNilD_len)))) (by decide) (fun _ _ _ _ _ => pts_none) (fun _ _ _ _ _ => pd_bin od_mul (pd_var 2) (pd_var 3))) (pd_nil))))
theorem body__law_same {m_rec : Mir} {j k : Nat} (B : Bi mg) (o__law_same : FnD P w K mg base "_law_same" j 2 m_rec) (hk : j ≤ k) (h0 : 0 ≤ k) : Body P w K mg base k ["actual", "expected", "k"] "_law_same" s__law_same (b__law_same m_rec) := fun f cdv A outer s H E hr =>
    ps_cons (ps_iff (pq_tru (pd_callB cd_isi (by rfl) B.b_isinstance bo_isinstance (pd_cons (pd_var 1) (pd_cons (pd_ty (by rfl) B.b_tuple bo_tuple) (pd_nil))))) (ps_cons (ps_iff (PW.pt (pq_or (pq_not (pq_tru (pd_callB cd_isi (by rfl) B.b_isinstance bo_isinstance (pd_cons (pd_var 0) (pd_cons (pd_ty (by rfl) B.b_tuple bo_tuple) (pd_nil)))))) (pq_or1 (pq_cmp (od_neD hr.units) (pd_callB cd_len (by rfl) B.b_len bo_len (pd_cons (pd_var 0) (pd_nil))) (pd_callB cd_len (by rfl) B.b_len bo_len (pd_cons (pd_var 1) (pd_nil))) (nomark _))))) (ps_one (ps_return (pd_bl))) (ps_nil))
    (ps_cons (ps_loop (passes_of rfl) rfl (pid_range1 B.b_range (pd_cons (pd_callB cd_len (by rfl) B.b_len bo_len (pd_cons (pd_var 1) (pd_nil))) (pd_nil))) (pgd_name 2 sc__law_same.nd) (ps_one (ps_iff (pq_not (pq_tru (pd_call (hk := hk) o__law_same (takes_of rfl rfl rfl rfl) hr (pd_cons (pd_ix xd_ix (pd_var 0) (pd_var 2) (fun _ _ => rfl)) (pd_cons (pd_ix xd_ix (pd_var 1) (pd_var 2) (fun _ _ => rfl)) (pd_nil)))))) (ps_one (ps_return (pd_bl))) (ps_nil))))
    (ps_one (ps_return (pd_bl))))) (ps_nil))
    (ps_cons (ps_iff (pq_cmp od_isN (pd_var 1) (pd_non) (nomark _)) (ps_one (ps_return (pd_cmp od_isN (pd_var 0) (pd_non) (nomark _)))) (ps_nil))
    (ps_cons (ps_iff (pq_tru (pd_callB cd_isi (by rfl) B.b_isinstance bo_isinstance (pd_cons (pd_var 1) (pd_cons (pd_ty (by rfl) B.b_bool bo_bool) (pd_nil))))) (ps_one (ps_return (pd_and (pd_callB cd_isi (by rfl) B.b_isinstance bo_isinstance (pd_cons (pd_var 0) (pd_cons (pd_ty (by rfl) B.b_bool bo_bool) (pd_nil)))) (pd_one (pd_cmp (od_eqD hr.units) (pd_var 0) (pd_var 1) (nomark _)))))) (ps_nil))
    (ps_cons (ps_iff (pq_tru (pd_callB cd_isi (by rfl) B.b_isinstance bo_isinstance (pd_cons (pd_var 1) (pd_cons (pd_ty (by rfl) B.b_str bo_str) (pd_nil))))) (ps_one (ps_return (pd_and (pd_callB cd_isi (by rfl) B.b_isinstance bo_isinstance (pd_cons (pd_var 0) (pd_cons (pd_ty (by rfl) B.b_str bo_str) (pd_nil)))) (pd_one (pd_cmp (od_eqD hr.units) (pd_var 0) (pd_var 1) (nomark _)))))) (ps_nil))
    (ps_one (ps_return (pd_and (pd_callB cd_isi (by rfl) B.b_isinstance bo_isinstance (pd_cons (pd_var 0) (pd_cons (pd_ty (by rfl) B.b_int bo_int) (pd_nil)))) (pd_and (pd_not (pd_callB cd_isi (by rfl) B.b_isinstance bo_isinstance (pd_cons (pd_var 0) (pd_cons (pd_ty (by rfl) B.b_bool bo_bool) (pd_nil))))) (pd_one (pd_cmp (od_eqD hr.units) (pd_var 0) (pd_var 1) (nomark _))))))))))
theorem body__law_blend_of (B : Bi mg) : Body P w K mg base 0 ["filling", "pair"] "_law_blend_of" s__law_blend_of b__law_blend_of := fun f cdv A outer s H E hr =>
    ps_one (ps_return (pd_callTy cd_tuple (by rfl) B.b_tuple bo_tuple (pd_cons (pd_bin od_add (pd_lst (pd_cons (pd_int) (pd_nil))) (pd_lc (own := [("pair", 1)]) rfl sc__law_blend_of.nd (pid_seq (pd_var 0)) (blkOk_by (N := ["filling", "pair"]) (sc := defScope s__law_blend_of) (by decide +kernel)) (fun _ _ _ _ _ => pgd_name 1 sc__law_blend_of.nd) (by decide) (fun _ _ _ _ _ => pts_none) (fun _ _ _ _ _ => pd_ix xd_ix (pd_var 1) (pd_int) (fun _ _ => rfl)))) (pd_nil))))
theorem body_filling_blend (B : Bi mg) : Body P w K mg base 0 ["filling", "_", "value"] "filling_blend" s_filling_blend b_filling_blend := fun f cdv A outer s H E hr =>
    ps_one (ps_return (pd_bin od_add (pd_tup (pd_cons (pd_int) (pd_nil))) (pd_callTy cd_tuple (by rfl) B.b_tuple bo_tuple (pd_cons (pd_lc (own := [("_", 1), ("value", 2)]) rfl sc_filling_blend.nd (pid_seq (pd_var 0)) (blkOk_by (N := ["filling", "_", "value"]) (sc := defScope s_filling_blend) (by decide +kernel)) (fun _ _ _ _ _ => pgd_tup 2 rfl (pgd_cons (pgd_name 1 sc_filling_blend.nd) (pgd_cons (pgd_name 2 sc_filling_blend.nd) (pgd_nil))) (gConsD_len (gConsD_len (gNilD_len)))) (by decide) (fun _ _ _ _ _ => pts_none) (fun _ _ _ _ _ => pd_var 2)) (pd_nil)))))
theorem body__law_pair_claim (B : Bi mg) : Body P w K mg base 0 ["name", "answer", "names", "numbers", "k"] "_law_pair_claim" s__law_pair_claim b__law_pair_claim := fun f cdv A outer s H E hr =>
    ps_cons (ps_assign (pd_own (pd_bin od_add (pd_lst (pd_cons (pd_bin od_subI (pd_int) (pd_var 1)) (pd_nil))) (pd_lc (own := [("k", 4)]) rfl sc__law_pair_claim.nd (pid_range1 B.b_range (pd_cons (pd_var 2) (pd_nil))) (blkOk_by (N := ["name", "answer", "names", "numbers", "k"]) (sc := defScope s__law_pair_claim) (by decide +kernel)) (fun _ _ _ _ _ => pgd_name 4 sc__law_pair_claim.nd) (by decide) (fun _ _ _ _ _ => pts_none) (fun _ _ _ _ _ => pd_int)))) (pgd_name 3 sc__law_pair_claim.nd))
    (ps_cons (ps_assign (pd_bin od_subI (pd_bin od_mul (pd_int) (pd_var 1)) (pd_int)) (pgd_sub (W := WF) (pd_var 3) (pd_var 0)))
    (ps_one (ps_return (pd_callTy cd_tuple (by rfl) B.b_tuple bo_tuple (pd_cons (pd_var 3) (pd_nil))))))
theorem body_pair_claim (B : Bi mg) : Body P w K mg base 0 ["names", "name", "answer", "numbers"] "pair_claim" s_pair_claim b_pair_claim := fun f cdv A outer s H E hr =>
    ps_cons (ps_assign (pd_own (pd_bin od_mul (pd_lst (pd_cons (pd_int) (pd_nil))) (pd_bin od_add (pd_var 0) (pd_int)))) (pgd_name 3 sc_pair_claim.nd))
    (ps_cons (ps_assign (pd_bin od_subI (pd_int) (pd_var 2)) (pgd_sub (W := WF) (pd_var 3) (pd_int)))
    (ps_cons (ps_assign (pd_bin od_subI (pd_bin od_mul (pd_int) (pd_var 2)) (pd_int)) (pgd_sub (W := WF) (pd_var 3) (pd_var 1)))
    (ps_one (ps_return (pd_callTy cd_tuple (by rfl) B.b_tuple bo_tuple (pd_cons (pd_var 3) (pd_nil)))))))
theorem body__law_wish_claim (B : Bi mg) : Body P w K mg base 0 ["wish", "names", "numbers", "word", "k"] "_law_wish_claim" s__law_wish_claim b__law_wish_claim := fun f cdv A outer s H E hr =>
    ps_cons (ps_assign (pd_own (pd_bin od_add (pd_lst (pd_cons (pd_bin od_subI (pd_int) (pd_int)) (pd_nil))) (pd_lc (own := [("k", 4)]) rfl sc__law_wish_claim.nd (pid_range1 B.b_range (pd_cons (pd_var 1) (pd_nil))) (blkOk_by (N := ["wish", "names", "numbers", "word", "k"]) (sc := defScope s__law_wish_claim) (by decide +kernel)) (fun _ _ _ _ _ => pgd_name 4 sc__law_wish_claim.nd) (by decide) (fun _ _ _ _ _ => pts_none) (fun _ _ _ _ _ => pd_int)))) (pgd_name 2 sc__law_wish_claim.nd))
    (ps_cons (ps_loop (passes_of rfl) rfl (pid_seq (pd_var 0)) (pgd_name 3 sc__law_wish_claim.nd) (ps_cons (ps_assign (pd_bin od_subI (pd_bin od_mul (pd_int) (pd_ix xd_ix (pd_var 3) (pd_int) (fun _ _ => rfl))) (pd_int)) (pgd_sub (W := WF) (pd_var 2) (pd_ix xd_ix (pd_var 3) (pd_int) (fun _ _ => rfl))))
    (ps_one (ps_assign (pd_bin od_subI (pd_bin od_add (pd_ix xd_ix (pd_var 2) (pd_int) (fun _ _ => rfl)) (pd_int)) (pd_ix xd_ix (pd_var 3) (pd_int) (fun _ _ => rfl))) (pgd_sub (W := WF) (pd_var 2) (pd_int))))))
    (ps_one (ps_return (pd_callTy cd_tuple (by rfl) B.b_tuple bo_tuple (pd_cons (pd_var 2) (pd_nil))))))
theorem body_wish_claim (B : Bi mg) : Body P w K mg base 0 ["names", "wish", "numbers", "name", "value"] "wish_claim" s_wish_claim b_wish_claim := fun f cdv A outer s H E hr =>
    ps_cons (ps_assign (pd_own (pd_bin od_mul (pd_lst (pd_cons (pd_int) (pd_nil))) (pd_bin od_add (pd_var 0) (pd_int)))) (pgd_name 2 sc_wish_claim.nd))
    (ps_cons (ps_assign (pd_un ud_neg (pd_int)) (pgd_sub (W := WF) (pd_var 2) (pd_int)))
    (ps_cons (ps_loop (passes_of rfl) rfl (pid_seq (pd_var 1)) (pgd_tup 2 rfl (pgd_cons (pgd_name 3 sc_wish_claim.nd) (pgd_cons (pgd_name 4 sc_wish_claim.nd) (pgd_nil))) (gConsD_len (gConsD_len (gNilD_len)))) (ps_cons (ps_augI od_iaddI (pd_var 2) (pd_int) (pd_bin od_subI (pd_int) (pd_var 4)))
    (ps_one (ps_assign (pd_bin od_subI (pd_bin od_mul (pd_int) (pd_var 4)) (pd_int)) (pgd_sub (W := WF) (pd_var 2) (pd_var 3))))))
    (ps_one (ps_return (pd_callTy cd_tuple (by rfl) B.b_tuple bo_tuple (pd_cons (pd_var 2) (pd_nil)))))))
theorem body__law_nothing (B : Bi mg) : Body P w K mg base 0 ["names", "k"] "_law_nothing" s__law_nothing b__law_nothing := fun f cdv A outer s H E hr =>
    ps_one (ps_return (pd_callTy cd_tuple (by rfl) B.b_tuple bo_tuple (pd_cons (pd_bin od_add (pd_lst (pd_cons (pd_bin od_subI (pd_int) (pd_int)) (pd_nil))) (pd_lc (own := [("k", 1)]) rfl sc__law_nothing.nd (pid_range1 B.b_range (pd_cons (pd_var 0) (pd_nil))) (blkOk_by (N := ["names", "k"]) (sc := defScope s__law_nothing) (by decide +kernel)) (fun _ _ _ _ _ => pgd_name 1 sc__law_nothing.nd) (by decide) (fun _ _ _ _ _ => pts_none) (fun _ _ _ _ _ => pd_int))) (pd_nil))))
theorem body_nothing (B : Bi mg) : Body P w K mg base 0 ["names"] "nothing" s_nothing b_nothing := fun f cdv A outer s H E hr =>
    ps_one (ps_return (pd_bin od_add (pd_tup (pd_cons (pd_un ud_neg (pd_int)) (pd_nil))) (pd_bin od_mul (pd_tup (pd_cons (pd_int) (pd_nil))) (pd_var 0))))
theorem body__law_cell (B : Bi mg) : Body P w K mg base 0 ["script", "k"] "_law_cell" s__law_cell b__law_cell := fun f cdv A outer s H E hr =>
    ps_cons (ps_iff (pq_cmp od_ltI (pd_var 1) (pd_callB cd_len (by rfl) B.b_len bo_len (pd_cons (pd_var 0) (pd_nil))) (nomark _)) (ps_one (ps_return (pd_ix xd_ix (pd_var 0) (pd_var 1) (fun _ _ => rfl)))) (ps_nil))
    (ps_one (ps_return (pd_int)))
theorem body__law_draws (B : Bi mg) : Body P w K mg base 0 ["cell", "many", "draws", "rest", "k", "state", "other"] "_law_draws" s__law_draws b__law_draws := fun f cdv A outer s H E hr =>
    ps_cons (ps_assign (pd_own (pd_lst (pd_nil))) (pgd_name 2 sc__law_draws.nd))
    (ps_cons (ps_assign (pd_own (pd_callB cd_abs (by rfl) B.b_abs bo_abs (pd_cons (pd_var 0) (pd_nil)))) (pgd_name 3 sc__law_draws.nd))
    (ps_cons (ps_iff (pq_cmp od_geI (pd_var 3) (pd_bin od_powI (pd_int) (pd_int)) (nomark _)) (ps_cons (ps_loop (passes_of rfl) rfl (pid_range1 B.b_range (pd_cons (pd_var 1) (pd_nil))) (pgd_name 4 sc__law_draws.nd) (ps_cons (ps_drop (pd_mu PySem.F.slot_list_append PySem.F.type_list_append mu_append (pd_var 2) (pd_cons (pd_bin od_modI (pd_var 3) (pd_int)) (pd_nil))))
    (ps_one (ps_assign (pd_own (pd_bin od_divI (pd_var 3) (pd_int))) (pgd_name 3 sc__law_draws.nd)))))
    (ps_one (ps_return (pd_var 2)))) (ps_nil))
    (ps_cons (ps_assign (pd_own (pd_bin od_add (pd_var 3) (pd_int))) (pgd_name 5 sc__law_draws.nd))
    (ps_cons (ps_loop (passes_of rfl) rfl (pid_range1 B.b_range (pd_cons (pd_var 1) (pd_nil))) (pgd_name 4 sc__law_draws.nd) (ps_cons (ps_assign (pd_own (pd_bin od_modI (pd_callTy cd_int (by rfl) B.b_int bo_int (pd_cons (pd_bin od_add (pd_bin od_add (pd_bin od_mul (pd_var 5) (pd_int)) (pd_bin od_mul (pd_int) (pd_var 4))) (pd_int)) (pd_nil))) (pd_int))) (pgd_name 5 sc__law_draws.nd))
    (ps_cons (ps_assign (pd_own (pd_bin od_modI (pd_callTy cd_int (by rfl) B.b_int bo_int (pd_cons (pd_bin od_add (pd_bin od_mul (pd_var 5) (pd_int)) (pd_var 4)) (pd_nil))) (pd_int))) (pgd_name 6 sc__law_draws.nd))
    (ps_one (ps_drop (pd_mu PySem.F.slot_list_append PySem.F.type_list_append mu_append (pd_var 2) (pd_cons (pd_bin od_modI (pd_bin od_divI (pd_var 6) (pd_int)) (pd_int)) (pd_nil))))))))
    (ps_one (ps_return (pd_var 2)))))))
theorem body__law_claim (B : Bi mg) (o__law_draws : FnD P w K mg base "_law_draws" 1 2 (m__law_draws)) : Body P w K mg base 1 ["cell", "names", "draws", "numbers", "k", "number"] "_law_claim" s__law_claim b__law_claim := fun f cdv A outer s H E hr =>
    ps_cons (ps_assign (pd_own (pd_call o__law_draws (takes_of rfl rfl rfl rfl) hr (pd_cons (pd_var 0) (pd_cons (pd_bin od_add (pd_bin od_mul (pd_int) (pd_var 1)) (pd_int)) (pd_nil))))) (pgd_name 2 sc__law_claim.nd))
    (ps_cons (ps_assign (pd_own (pd_lst (pd_nil))) (pgd_name 3 sc__law_claim.nd))
    (ps_cons (ps_loop (passes_of rfl) rfl (pid_range1 B.b_range (pd_cons (pd_bin od_add (pd_var 1) (pd_int)) (pd_nil))) (pgd_name 4 sc__law_claim.nd) (ps_cons (ps_assign (pd_own (pd_bin od_subI (pd_bin od_modI (pd_ix xd_ix (pd_var 2) (pd_bin od_mul (pd_int) (pd_var 4)) (fun _ _ => rfl)) (pd_int)) (pd_int))) (pgd_name 5 sc__law_claim.nd))
    (ps_cons (ps_iff (pq_cmp (od_eqD hr.units) (pd_ix xd_ix (pd_var 2) (pd_bin od_add (pd_bin od_mul (pd_int) (pd_var 4)) (pd_int)) (fun _ _ => rfl)) (pd_int) (nomark _)) (ps_one (ps_assign (pd_own (pd_bin od_mul (pd_var 5) (pd_bin od_powI (pd_int) (pd_int)))) (pgd_name 5 sc__law_claim.nd))) (ps_nil))
    (ps_one (ps_drop (pd_mu PySem.F.slot_list_append PySem.F.type_list_append mu_append (pd_var 3) (pd_cons (pd_var 5) (pd_nil))))))))
    (ps_one (ps_return (pd_callTy cd_tuple (by rfl) B.b_tuple bo_tuple (pd_cons (pd_var 3) (pd_nil)))))))
theorem body_law (B : Bi mg) (o__law_multiple : FnD P w K mg base "_law_multiple" 1 2 (m__law_multiple)) (o_is_multiple : FnD P w K mg base "is_multiple" 1 2 (m_is_multiple)) (o__law_bools : FnD P w K mg base "_law_bools" 1 2 (m__law_bools)) (o__law_small_is_blend : FnD P w K mg base "_law_small_is_blend" 1 1 (m__law_small_is_blend)) (o_is_blend : FnD P w K mg base "is_blend" 1 1 (m_is_blend)) (o__law_worth : FnD P w K mg base "_law_worth" 1 2 (m__law_worth)) (o_number_at : FnD P w K mg base "number_at" 1 2 (m_number_at)) (o__law_same : FnD P w K mg base "_law_same" 4 2 (m__law_same 3)) (o__law_blend_of : FnD P w K mg base "_law_blend_of" 1 1 (m__law_blend_of)) (o_filling_blend : FnD P w K mg base "filling_blend" 1 1 (m_filling_blend)) (o__law_pair_claim : FnD P w K mg base "_law_pair_claim" 1 3 (m__law_pair_claim)) (o_pair_claim : FnD P w K mg base "pair_claim" 1 3 (m_pair_claim)) (o__law_wish_claim : FnD P w K mg base "_law_wish_claim" 1 2 (m__law_wish_claim)) (o_wish_claim : FnD P w K mg base "wish_claim" 1 2 (m_wish_claim)) (o__law_nothing : FnD P w K mg base "_law_nothing" 1 1 (m__law_nothing)) (o_nothing : FnD P w K mg base "nothing" 1 1 (m_nothing)) (o__law_cell : FnD P w K mg base "_law_cell" 1 2 (m__law_cell)) (o__law_draws : FnD P w K mg base "_law_draws" 1 2 (m__law_draws)) (o__law_claim : FnD P w K mg base "_law_claim" 2 2 (m__law_claim)) : Body P w K mg base 4 ["script", "first", "names", "one", "two", "draws", "wish", "claim", "name", "answer", "filling", "blend", "met", "row", "some", "factor", "other", "large", "spoilt", "pairs", "pair", "k", "word", "number"] "law" s_law b_law := fun f cdv A outer s H E hr =>
    ps_cons (ps_assign (pd_own (pd_callB cd_abs (by rfl) B.b_abs bo_abs (pd_cons (pd_call o__law_cell (takes_of rfl rfl rfl rfl) hr (pd_cons (pd_var 0) (pd_cons (pd_int) (pd_nil)))) (pd_nil)))) (pgd_name 1 sc_law.nd))
    (ps_cons (ps_assign (pd_own (pd_if (pq_cmp (od_eqD hr.units) (pd_bin od_modI (pd_bin od_divI (pd_var 1) (pd_int)) (pd_int)) (pd_int) (nomark _)) (pd_bin od_modI (pd_var 1) (pd_int)) (pd_bin od_modI (pd_bin od_divI (pd_var 1) (pd_int)) (pd_int)))) (pgd_name 2 sc_law.nd))
    (ps_cons (ps_assign (pd_own (pd_call o__law_claim (takes_of rfl rfl rfl rfl) hr (pd_cons (pd_callB cd_abs (by rfl) B.b_abs bo_abs (pd_cons (pd_call o__law_cell (takes_of rfl rfl rfl rfl) hr (pd_cons (pd_var 0) (pd_cons (pd_int) (pd_nil)))) (pd_nil))) (pd_cons (pd_var 2) (pd_nil))))) (pgd_name 3 sc_law.nd))
    (ps_cons (ps_assign (pd_own (pd_call o__law_claim (takes_of rfl rfl rfl rfl) hr (pd_cons (pd_callB cd_abs (by rfl) B.b_abs bo_abs (pd_cons (pd_call o__law_cell (takes_of rfl rfl rfl rfl) hr (pd_cons (pd_var 0) (pd_cons (pd_int) (pd_nil)))) (pd_nil))) (pd_cons (pd_var 2) (pd_nil))))) (pgd_name 4 sc_law.nd))
    (ps_cons (ps_assign (pd_own (pd_call o__law_draws (takes_of rfl rfl rfl rfl) hr (pd_cons (pd_callB cd_abs (by rfl) B.b_abs bo_abs (pd_cons (pd_call o__law_cell (takes_of rfl rfl rfl rfl) hr (pd_cons (pd_var 0) (pd_cons (pd_int) (pd_nil)))) (pd_nil))) (pd_cons (pd_int) (pd_nil))))) (pgd_name 5 sc_law.nd))
    (ps_cons (ps_iff (pq_not (pq_tru (pd_call o__law_same (takes_of rfl rfl rfl rfl) hr (pd_cons (pd_call o_nothing (takes_of rfl rfl rfl rfl) hr (pd_cons (pd_var 2) (pd_nil))) (pd_cons (pd_call o__law_nothing (takes_of rfl rfl rfl rfl) hr (pd_cons (pd_var 2) (pd_nil))) (pd_nil)))))) (ps_one (ps_return (pd_bl))) (ps_nil))
    (ps_cons (ps_assign (pd_own (pd_callTy cd_tuple (by rfl) B.b_tuple bo_tuple (pd_cons (pd_lc (own := [("k", 21)]) rfl sc_law.nd (pid_range1 B.b_range (pd_cons (pd_var 2) (pd_nil))) (blkOk_by (N := ["script", "first", "names", "one", "two", "draws", "wish", "claim", "name", "answer", "filling", "blend", "met", "row", "some", "factor", "other", "large", "spoilt", "pairs", "pair", "k", "word", "number"]) (sc := defScope s_law) (by decide +kernel)) (fun _ _ _ _ _ => pgd_name 21 sc_law.nd) (by decide) (fun _ _ _ _ _ => pts_1 (pq_cmp od_gtI (pd_bin od_modI (pd_ix xd_ix (pd_var 5) (pd_var 21) (fun _ _ => rfl)) (pd_int)) (pd_int) (nomark _))) (fun _ _ _ _ _ => pd_tup (pd_cons (pd_bin od_add (pd_var 21) (pd_int)) (pd_cons (pd_bin od_modI (pd_ix xd_ix (pd_var 5) (pd_var 21) (fun _ _ => rfl)) (pd_int)) (pd_nil))))) (pd_nil)))) (pgd_name 6 sc_law.nd))
    (ps_cons (ps_assign (pd_own (pd_call o_wish_claim (takes_of rfl rfl rfl rfl) hr (pd_cons (pd_var 2) (pd_cons (pd_var 6) (pd_nil))))) (pgd_name 7 sc_law.nd))
    (ps_cons (ps_iff (pq_not (pq_tru (pd_call o__law_same (takes_of rfl rfl rfl rfl) hr (pd_cons (pd_var 7) (pd_cons (pd_call o__law_wish_claim (takes_of rfl rfl rfl rfl) hr (pd_cons (pd_var 6) (pd_cons (pd_var 2) (pd_nil)))) (pd_nil)))))) (ps_one (ps_return (pd_bl))) (ps_nil))
    (ps_cons (ps_loop (passes_of rfl) rfl (pid_range2 B.b_range (pd_cons (pd_int) (pd_cons (pd_bin od_add (pd_var 2) (pd_int)) (pd_nil)))) (pgd_name 8 sc_law.nd) (ps_one (ps_loop (passes_of rfl) rfl (pid_range1 B.b_range (pd_cons (pd_int) (pd_nil))) (pgd_name 9 sc_law.nd) (ps_one (ps_iff (pq_not (pq_tru (pd_call o__law_same (takes_of rfl rfl rfl rfl) hr (pd_cons (pd_call o_pair_claim (takes_of rfl rfl rfl rfl) hr (pd_cons (pd_var 2) (pd_cons (pd_var 8) (pd_cons (pd_var 9) (pd_nil))))) (pd_cons (pd_call o__law_pair_claim (takes_of rfl rfl rfl rfl) hr (pd_cons (pd_var 8) (pd_cons (pd_var 9) (pd_cons (pd_var 2) (pd_nil))))) (pd_nil)))))) (ps_one (ps_return (pd_bl))) (ps_nil))))))
    (ps_cons (ps_assign (pd_own (pd_callTy cd_tuple (by rfl) B.b_tuple bo_tuple (pd_cons (pd_lc (own := [("k", 21)]) rfl sc_law.nd (pid_range1 B.b_range (pd_cons (pd_var 2) (pd_nil))) (blkOk_by (N := ["script", "first", "names", "one", "two", "draws", "wish", "claim", "name", "answer", "filling", "blend", "met", "row", "some", "factor", "other", "large", "spoilt", "pairs", "pair", "k", "word", "number"]) (sc := defScope s_law) (by decide +kernel)) (fun _ _ _ _ _ => pgd_name 21 sc_law.nd) (by decide) (fun _ _ _ _ _ => pts_none) (fun _ _ _ _ _ => pd_tup (pd_cons (pd_bin od_add (pd_var 21) (pd_int)) (pd_cons (pd_bin od_modI (pd_bin od_divI (pd_ix xd_ix (pd_var 5) (pd_var 21) (fun _ _ => rfl)) (pd_int)) (pd_int)) (pd_nil))))) (pd_nil)))) (pgd_name 10 sc_law.nd))
    (ps_cons (ps_assign (pd_own (pd_call o_filling_blend (takes_of rfl rfl rfl rfl) hr (pd_cons (pd_var 10) (pd_nil)))) (pgd_name 11 sc_law.nd))
    (ps_cons (ps_iff (PW.pt (pq_or (pq_not (pq_tru (pd_call o__law_same (takes_of rfl rfl rfl rfl) hr (pd_cons (pd_var 11) (pd_cons (pd_call o__law_blend_of (takes_of rfl rfl rfl rfl) hr (pd_cons (pd_var 10) (pd_nil))) (pd_nil)))))) (pq_or1 (pq_not (pq_tru (pd_call o__law_bools (takes_of rfl rfl rfl rfl) hr (pd_cons (pd_call o_is_blend (takes_of rfl rfl rfl rfl) hr (pd_cons (pd_var 11) (pd_nil))) (pd_cons (pd_bl) (pd_nil))))))))) (ps_one (ps_return (pd_bl))) (ps_nil))
    (ps_cons (ps_assign (pd_own (pd_callB cd_len (by rfl) B.b_len bo_len (pd_cons (pd_lc (own := [("word", 22)]) rfl sc_law.nd (pid_seq (pd_var 6)) (blkOk_by (N := ["script", "first", "names", "one", "two", "draws", "wish", "claim", "name", "answer", "filling", "blend", "met", "row", "some", "factor", "other", "large", "spoilt", "pairs", "pair", "k", "word", "number"]) (sc := defScope s_law) (by decide +kernel)) (fun _ _ _ _ _ => pgd_name 22 sc_law.nd) (by decide) (fun _ _ _ _ _ => pts_1 (pq_cmp (od_in (un65 hr)) (pd_var 22) (pd_var 10) (by with_unfolding_all rfl))) (fun _ _ _ _ _ => pd_var 22)) (pd_nil)))) (pgd_name 12 sc_law.nd))
    (ps_cons (ps_iff (PW.pt (pq_or (pq_not (pq_tru (pd_call o__law_same (takes_of rfl rfl rfl rfl) hr (pd_cons (pd_call o_number_at (takes_of rfl rfl rfl rfl) hr (pd_cons (pd_var 7) (pd_cons (pd_var 11) (pd_nil)))) (pd_cons (pd_bin od_subI (pd_var 12) (pd_int)) (pd_nil)))))) (pq_or1 (pq_not (pq_tru (pd_call o__law_same (takes_of rfl rfl rfl rfl) hr (pd_cons (pd_call o_number_at (takes_of rfl rfl rfl rfl) hr (pd_cons (pd_var 3) (pd_cons (pd_var 4) (pd_nil)))) (pd_cons (pd_call o__law_worth (takes_of rfl rfl rfl rfl) hr (pd_cons (pd_var 3) (pd_cons (pd_var 4) (pd_nil)))) (pd_nil))))))))) (ps_one (ps_return (pd_bl))) (ps_nil))
    (ps_cons (ps_assign (pd_own (pd_callTy cd_tuple (by rfl) B.b_tuple bo_tuple (pd_cons (pd_bin od_add (pd_lst (pd_cons (pd_bin od_modI (pd_ix xd_ix (pd_var 5) (pd_int) (fun _ _ => rfl)) (pd_int)) (pd_nil))) (pd_lc (own := [("k", 21)]) rfl sc_law.nd (pid_range1 B.b_range (pd_cons (pd_var 2) (pd_nil))) (blkOk_by (N := ["script", "first", "names", "one", "two", "draws", "wish", "claim", "name", "answer", "filling", "blend", "met", "row", "some", "factor", "other", "large", "spoilt", "pairs", "pair", "k", "word", "number"]) (sc := defScope s_law) (by decide +kernel)) (fun _ _ _ _ _ => pgd_name 21 sc_law.nd) (by decide) (fun _ _ _ _ _ => pts_none) (fun _ _ _ _ _ => pd_bin od_modI (pd_bin od_divI (pd_ix xd_ix (pd_var 5) (pd_var 21) (fun _ _ => rfl)) (pd_int)) (pd_int)))) (pd_nil)))) (pgd_name 13 sc_law.nd))
    (ps_cons (ps_loop (passes_of rfl) rfl (pid_seq (pd_tup (pd_cons (pd_var 13) (pd_cons (pd_var 4) (pd_cons (pd_callTy cd_tuple (by rfl) B.b_tuple bo_tuple (pd_cons (pd_bin od_add (pd_lst (pd_cons (pd_int) (pd_nil))) (pd_lc (own := [("number", 23)]) rfl sc_law.nd (pid_seq (pd_slice sd_sl (pd_var 3) (pd_osome (pd_int)) (pd_onone))) (blkOk_by (N := ["script", "first", "names", "one", "two", "draws", "wish", "claim", "name", "answer", "filling", "blend", "met", "row", "some", "factor", "other", "large", "spoilt", "pairs", "pair", "k", "word", "number"]) (sc := defScope s_law) (by decide +kernel)) (fun _ _ _ _ _ => pgd_name 23 sc_law.nd) (by decide) (fun _ _ _ _ _ => pts_none) (fun _ _ _ _ _ => pd_bin od_modI (pd_var 23) (pd_int)))) (pd_nil))) (pd_nil)))))) (pgd_name 14 sc_law.nd) (ps_one (ps_iff (pq_not (pq_tru (pd_call o__law_bools (takes_of rfl rfl rfl rfl) hr (pd_cons (pd_call o_is_blend (takes_of rfl rfl rfl rfl) hr (pd_cons (pd_var 14) (pd_nil))) (pd_cons (pd_call o__law_small_is_blend (takes_of rfl rfl rfl rfl) hr (pd_cons (pd_var 14) (pd_nil))) (pd_nil)))))) (ps_one (ps_return (pd_bl))) (ps_nil))))
    (ps_cons (ps_assign (pd_own (pd_bin od_add (pd_int) (pd_bin od_modI (pd_ix xd_ix (pd_var 5) (pd_int) (fun _ _ => rfl)) (pd_int)))) (pgd_name 15 sc_law.nd))
    (ps_cons (ps_assign (pd_own (pd_callTy cd_tuple (by rfl) B.b_tuple bo_tuple (pd_cons (pd_lc (own := [("number", 23)]) rfl sc_law.nd (pid_seq (pd_var 3)) (blkOk_by (N := ["script", "first", "names", "one", "two", "draws", "wish", "claim", "name", "answer", "filling", "blend", "met", "row", "some", "factor", "other", "large", "spoilt", "pairs", "pair", "k", "word", "number"]) (sc := defScope s_law) (by decide +kernel)) (fun _ _ _ _ _ => pgd_name 23 sc_law.nd) (by decide) (fun _ _ _ _ _ => pts_none) (fun _ _ _ _ _ => pd_bin od_mul (pd_bin od_add (pd_int) (pd_bin od_modI (pd_ix xd_ix (pd_var 5) (pd_int) (fun _ _ => rfl)) (pd_int))) (pd_var 23))) (pd_nil)))) (pgd_name 16 sc_law.nd))
    (ps_cons (ps_assign (pd_own (pd_callTy cd_tuple (by rfl) B.b_tuple bo_tuple (pd_cons (pd_lc (own := [("number", 23)]) rfl sc_law.nd (pid_seq (pd_var 3)) (blkOk_by (N := ["script", "first", "names", "one", "two", "draws", "wish", "claim", "name", "answer", "filling", "blend", "met", "row", "some", "factor", "other", "large", "spoilt", "pairs", "pair", "k", "word", "number"]) (sc := defScope s_law) (by decide +kernel)) (fun _ _ _ _ _ => pgd_name 23 sc_law.nd) (by decide) (fun _ _ _ _ _ => pts_none) (fun _ _ _ _ _ => pd_bin od_mul (pd_var 15) (pd_var 23))) (pd_nil)))) (pgd_name 17 sc_law.nd))
    (ps_cons (ps_assignLc (own := [("number", 23)]) 18 rfl sc_law.nd (pid_seq (pd_var 17)) (blkOk_by (N := ["script", "first", "names", "one", "two", "draws", "wish", "claim", "name", "answer", "filling", "blend", "met", "row", "some", "factor", "other", "large", "spoilt", "pairs", "pair", "k", "word", "number"]) (sc := defScope s_law) (by decide +kernel)) (fun _ _ _ _ _ => pgd_name 23 sc_law.nd) (by decide) (fun _ _ _ _ _ => pts_none) (fun _ _ _ _ _ => pd_var 23) (sw_true rfl rfl rfl (by decide +kernel)))
    (ps_cons (ps_assign (pd_bin od_subI (pd_bin od_add (pd_ix xd_ix (pd_var 18) (pd_bin od_modI (pd_ix xd_ix (pd_var 5) (pd_int) (fun _ _ => rfl)) (pd_callB cd_len (by rfl) B.b_len bo_len (pd_cons (pd_var 18) (pd_nil)))) (fun _ _ => rfl)) (pd_int)) (pd_bin od_mul (pd_int) (pd_bin od_modI (pd_ix xd_ix (pd_var 5) (pd_int) (fun _ _ => rfl)) (pd_int)))) (pgd_sub (W := WF) (pd_var 18) (pd_bin od_modI (pd_ix xd_ix (pd_var 5) (pd_int) (fun _ _ => rfl)) (pd_callB cd_len (by rfl) B.b_len bo_len (pd_cons (pd_var 18) (pd_nil))))))
    (ps_cons (ps_assign (pd_own (pd_lst (pd_cons (pd_tup (pd_cons (pd_var 17) (pd_cons (pd_var 16) (pd_nil)))) (pd_cons (pd_tup (pd_cons (pd_var 16) (pd_cons (pd_var 17) (pd_nil)))) (pd_cons (pd_tup (pd_cons (pd_callTy cd_tuple (by rfl) B.b_tuple bo_tuple (pd_cons (pd_var 18) (pd_nil))) (pd_cons (pd_var 16) (pd_nil)))) (pd_cons (pd_tup (pd_cons (pd_var 16) (pd_cons (pd_callTy cd_tuple (by rfl) B.b_tuple bo_tuple (pd_cons (pd_var 18) (pd_nil))) (pd_nil)))) (pd_cons (pd_tup (pd_cons (pd_var 3) (pd_cons (pd_var 4) (pd_nil)))) (pd_cons (pd_tup (pd_cons (pd_var 7) (pd_cons (pd_var 3) (pd_nil)))) (pd_nil))))))))) (pgd_name 19 sc_law.nd))
    (ps_cons (ps_assign (pd_own (pd_bin od_add (pd_var 19) (pd_lst (pd_cons (pd_tup (pd_cons (pd_callTy cd_tuple (by rfl) B.b_tuple bo_tuple (pd_cons (pd_lc (own := [("number", 23)]) rfl sc_law.nd (pid_seq (pd_var 3)) (blkOk_by (N := ["script", "first", "names", "one", "two", "draws", "wish", "claim", "name", "answer", "filling", "blend", "met", "row", "some", "factor", "other", "large", "spoilt", "pairs", "pair", "k", "word", "number"]) (sc := defScope s_law) (by decide +kernel)) (fun _ _ _ _ _ => pgd_name 23 sc_law.nd) (by decide) (fun _ _ _ _ _ => pts_none) (fun _ _ _ _ _ => pd_bin od_subI (pd_int) (pd_var 23))) (pd_nil))) (pd_cons (pd_var 16) (pd_nil)))) (pd_cons (pd_tup (pd_cons (pd_callTy cd_tuple (by rfl) B.b_tuple bo_tuple (pd_cons (pd_lc (own := [("number", 23)]) rfl sc_law.nd (pid_seq (pd_var 3)) (blkOk_by (N := ["script", "first", "names", "one", "two", "draws", "wish", "claim", "name", "answer", "filling", "blend", "met", "row", "some", "factor", "other", "large", "spoilt", "pairs", "pair", "k", "word", "number"]) (sc := defScope s_law) (by decide +kernel)) (fun _ _ _ _ _ => pgd_name 23 sc_law.nd) (by decide) (fun _ _ _ _ _ => pts_none) (fun _ _ _ _ _ => pd_int)) (pd_nil))) (pd_cons (pd_var 16) (pd_nil)))) (pd_nil)))))) (pgd_name 19 sc_law.nd))
    (ps_cons (ps_assign (pd_own (pd_bin od_add (pd_var 19) (pd_lst (pd_cons (pd_tup (pd_cons (pd_var 16) (pd_cons (pd_callTy cd_tuple (by rfl) B.b_tuple bo_tuple (pd_cons (pd_lc (own := [("number", 23)]) rfl sc_law.nd (pid_seq (pd_var 3)) (blkOk_by (N := ["script", "first", "names", "one", "two", "draws", "wish", "claim", "name", "answer", "filling", "blend", "met", "row", "some", "factor", "other", "large", "spoilt", "pairs", "pair", "k", "word", "number"]) (sc := defScope s_law) (by decide +kernel)) (fun _ _ _ _ _ => pgd_name 23 sc_law.nd) (by decide) (fun _ _ _ _ _ => pts_none) (fun _ _ _ _ _ => pd_int)) (pd_nil))) (pd_nil)))) (pd_nil))))) (pgd_name 19 sc_law.nd))
    (ps_cons (ps_loop (passes_of rfl) rfl (pid_seq (pd_var 19)) (pgd_name 20 sc_law.nd) (ps_one (ps_iff (pq_not (pq_tru (pd_call o__law_bools (takes_of rfl rfl rfl rfl) hr (pd_cons (pd_call o_is_multiple (takes_of rfl rfl rfl rfl) hr (pd_cons (pd_ix xd_ix (pd_var 20) (pd_int) (fun _ _ => rfl)) (pd_cons (pd_ix xd_ix (pd_var 20) (pd_int) (fun _ _ => rfl)) (pd_nil)))) (pd_cons (pd_call o__law_multiple (takes_of rfl rfl rfl rfl) hr (pd_cons (pd_ix xd_ix (pd_var 20) (pd_int) (fun _ _ => rfl)) (pd_cons (pd_ix xd_ix (pd_var 20) (pd_int) (fun _ _ => rfl)) (pd_nil)))) (pd_nil)))))) (ps_one (ps_return (pd_bl))) (ps_nil))))
    (ps_one (ps_return (pd_bl))))))))))))))))))))))))))))
theorem ok__law_multiple {f_ : Addr} {fd : FuncData} (F : FnP K "_law_multiple" s__law_multiple f_ fd) (hm : mg "_law_multiple" = some (.ref f_)) (B : Bi mg) : FnD P w K mg base "_law_multiple" 1 2 m__law_multiple := fnD_mk F hm sc__law_multiple (body__law_multiple B ) (FunD.bindsN F fun _ _ _ _ _ _ us hl => match us, hl with | [_, _], _ => rfl) rfl
theorem ok_is_multiple {f_ : Addr} {fd : FuncData} (F : FnP K "is_multiple" s_is_multiple f_ fd) (hm : mg "is_multiple" = some (.ref f_)) (B : Bi mg) : FnD P w K mg base "is_multiple" 1 2 m_is_multiple := fnD_mk F hm sc_is_multiple (body_is_multiple B ) (FunD.bindsN F fun _ _ _ _ _ _ us hl => match us, hl with | [_, _], _ => rfl) rfl
theorem ok__law_bools {f_ : Addr} {fd : FuncData} (F : FnP K "_law_bools" s__law_bools f_ fd) (hm : mg "_law_bools" = some (.ref f_)) (B : Bi mg) : FnD P w K mg base "_law_bools" 1 2 m__law_bools := fnD_mk F hm sc__law_bools (body__law_bools B ) (FunD.bindsN F fun _ _ _ _ _ _ us hl => match us, hl with | [_, _], _ => rfl) rfl
theorem ok__law_small_is_blend {f_ : Addr} {fd : FuncData} (F : FnP K "_law_small_is_blend" s__law_small_is_blend f_ fd) (hm : mg "_law_small_is_blend" = some (.ref f_)) (B : Bi mg) : FnD P w K mg base "_law_small_is_blend" 1 1 m__law_small_is_blend := fnD_mk F hm sc__law_small_is_blend (body__law_small_is_blend B ) (FunD.bindsN F fun _ _ _ _ _ _ us hl => match us, hl with | [_], _ => rfl) rfl
theorem ok_is_blend {f_ : Addr} {fd : FuncData} (F : FnP K "is_blend" s_is_blend f_ fd) (hm : mg "is_blend" = some (.ref f_)) (B : Bi mg) : FnD P w K mg base "is_blend" 1 1 m_is_blend := fnD_mk F hm sc_is_blend (body_is_blend B ) (FunD.bindsN F fun _ _ _ _ _ _ us hl => match us, hl with | [_], _ => rfl) rfl
theorem ok__law_worth {f_ : Addr} {fd : FuncData} (F : FnP K "_law_worth" s__law_worth f_ fd) (hm : mg "_law_worth" = some (.ref f_)) (B : Bi mg) : FnD P w K mg base "_law_worth" 1 2 m__law_worth := fnD_mk F hm sc__law_worth (body__law_worth B ) (FunD.bindsN F fun _ _ _ _ _ _ us hl => match us, hl with | [_, _], _ => rfl) rfl
theorem ok_number_at {f_ : Addr} {fd : FuncData} (F : FnP K "number_at" s_number_at f_ fd) (hm : mg "number_at" = some (.ref f_)) (B : Bi mg) : FnD P w K mg base "number_at" 1 2 m_number_at := fnD_mk F hm sc_number_at (body_number_at B ) (FunD.bindsN F fun _ _ _ _ _ _ us hl => match us, hl with | [_, _], _ => rfl) rfl
theorem ok__law_same {f_ : Addr} {fd : FuncData} (F : FnP K "_law_same" s__law_same f_ fd) (hm : mg "_law_same" = some (.ref f_)) (B : Bi mg) : ∀ d : Nat, FnD P w K mg base "_law_same" (0 + d + 1) 2 (m__law_same d)
  | 0 => fnD_none F hm sc__law_same (FunD.bindsN F fun _ _ _ _ _ _ us hl => match us, hl with | [_, _], _ => rfl) rfl
  | d + 1 => fnD_mk F hm sc__law_same (body__law_same B  (ok__law_same F hm B  d) (Nat.le_refl _) (by omega)) (FunD.bindsN F fun _ _ _ _ _ _ us hl => match us, hl with | [_, _], _ => rfl) rfl
theorem ok__law_blend_of {f_ : Addr} {fd : FuncData} (F : FnP K "_law_blend_of" s__law_blend_of f_ fd) (hm : mg "_law_blend_of" = some (.ref f_)) (B : Bi mg) : FnD P w K mg base "_law_blend_of" 1 1 m__law_blend_of := fnD_mk F hm sc__law_blend_of (body__law_blend_of B ) (FunD.bindsN F fun _ _ _ _ _ _ us hl => match us, hl with | [_], _ => rfl) rfl
theorem ok_filling_blend {f_ : Addr} {fd : FuncData} (F : FnP K "filling_blend" s_filling_blend f_ fd) (hm : mg "filling_blend" = some (.ref f_)) (B : Bi mg) : FnD P w K mg base "filling_blend" 1 1 m_filling_blend := fnD_mk F hm sc_filling_blend (body_filling_blend B ) (FunD.bindsN F fun _ _ _ _ _ _ us hl => match us, hl with | [_], _ => rfl) rfl
theorem ok__law_pair_claim {f_ : Addr} {fd : FuncData} (F : FnP K "_law_pair_claim" s__law_pair_claim f_ fd) (hm : mg "_law_pair_claim" = some (.ref f_)) (B : Bi mg) : FnD P w K mg base "_law_pair_claim" 1 3 m__law_pair_claim := fnD_mk F hm sc__law_pair_claim (body__law_pair_claim B ) (FunD.bindsN F fun _ _ _ _ _ _ us hl => match us, hl with | [_, _, _], _ => rfl) rfl
theorem ok_pair_claim {f_ : Addr} {fd : FuncData} (F : FnP K "pair_claim" s_pair_claim f_ fd) (hm : mg "pair_claim" = some (.ref f_)) (B : Bi mg) : FnD P w K mg base "pair_claim" 1 3 m_pair_claim := fnD_mk F hm sc_pair_claim (body_pair_claim B ) (FunD.bindsN F fun _ _ _ _ _ _ us hl => match us, hl with | [_, _, _], _ => rfl) rfl
theorem ok__law_wish_claim {f_ : Addr} {fd : FuncData} (F : FnP K "_law_wish_claim" s__law_wish_claim f_ fd) (hm : mg "_law_wish_claim" = some (.ref f_)) (B : Bi mg) : FnD P w K mg base "_law_wish_claim" 1 2 m__law_wish_claim := fnD_mk F hm sc__law_wish_claim (body__law_wish_claim B ) (FunD.bindsN F fun _ _ _ _ _ _ us hl => match us, hl with | [_, _], _ => rfl) rfl
theorem ok_wish_claim {f_ : Addr} {fd : FuncData} (F : FnP K "wish_claim" s_wish_claim f_ fd) (hm : mg "wish_claim" = some (.ref f_)) (B : Bi mg) : FnD P w K mg base "wish_claim" 1 2 m_wish_claim := fnD_mk F hm sc_wish_claim (body_wish_claim B ) (FunD.bindsN F fun _ _ _ _ _ _ us hl => match us, hl with | [_, _], _ => rfl) rfl
theorem ok__law_nothing {f_ : Addr} {fd : FuncData} (F : FnP K "_law_nothing" s__law_nothing f_ fd) (hm : mg "_law_nothing" = some (.ref f_)) (B : Bi mg) : FnD P w K mg base "_law_nothing" 1 1 m__law_nothing := fnD_mk F hm sc__law_nothing (body__law_nothing B ) (FunD.bindsN F fun _ _ _ _ _ _ us hl => match us, hl with | [_], _ => rfl) rfl
theorem ok_nothing {f_ : Addr} {fd : FuncData} (F : FnP K "nothing" s_nothing f_ fd) (hm : mg "nothing" = some (.ref f_)) (B : Bi mg) : FnD P w K mg base "nothing" 1 1 m_nothing := fnD_mk F hm sc_nothing (body_nothing B ) (FunD.bindsN F fun _ _ _ _ _ _ us hl => match us, hl with | [_], _ => rfl) rfl
theorem ok__law_cell {f_ : Addr} {fd : FuncData} (F : FnP K "_law_cell" s__law_cell f_ fd) (hm : mg "_law_cell" = some (.ref f_)) (B : Bi mg) : FnD P w K mg base "_law_cell" 1 2 m__law_cell := fnD_mk F hm sc__law_cell (body__law_cell B ) (FunD.bindsN F fun _ _ _ _ _ _ us hl => match us, hl with | [_, _], _ => rfl) rfl
theorem ok__law_draws {f_ : Addr} {fd : FuncData} (F : FnP K "_law_draws" s__law_draws f_ fd) (hm : mg "_law_draws" = some (.ref f_)) (B : Bi mg) : FnD P w K mg base "_law_draws" 1 2 m__law_draws := fnD_mk F hm sc__law_draws (body__law_draws B ) (FunD.bindsN F fun _ _ _ _ _ _ us hl => match us, hl with | [_, _], _ => rfl) rfl
theorem ok__law_claim {f_ : Addr} {fd : FuncData} (F : FnP K "_law_claim" s__law_claim f_ fd) (hm : mg "_law_claim" = some (.ref f_)) (B : Bi mg) (o__law_draws : FnD P w K mg base "_law_draws" 1 2 (m__law_draws)) : FnD P w K mg base "_law_claim" 2 2 m__law_claim := fnD_mk F hm sc__law_claim (body__law_claim B o__law_draws) (FunD.bindsN F fun _ _ _ _ _ _ us hl => match us, hl with | [_, _], _ => rfl) rfl
theorem ok_law {f_ : Addr} {fd : FuncData} (F : FnP K "law" s_law f_ fd) (hm : mg "law" = some (.ref f_)) (B : Bi mg) (o__law_multiple : FnD P w K mg base "_law_multiple" 1 2 (m__law_multiple)) (o_is_multiple : FnD P w K mg base "is_multiple" 1 2 (m_is_multiple)) (o__law_bools : FnD P w K mg base "_law_bools" 1 2 (m__law_bools)) (o__law_small_is_blend : FnD P w K mg base "_law_small_is_blend" 1 1 (m__law_small_is_blend)) (o_is_blend : FnD P w K mg base "is_blend" 1 1 (m_is_blend)) (o__law_worth : FnD P w K mg base "_law_worth" 1 2 (m__law_worth)) (o_number_at : FnD P w K mg base "number_at" 1 2 (m_number_at)) (o__law_same : FnD P w K mg base "_law_same" 4 2 (m__law_same 3)) (o__law_blend_of : FnD P w K mg base "_law_blend_of" 1 1 (m__law_blend_of)) (o_filling_blend : FnD P w K mg base "filling_blend" 1 1 (m_filling_blend)) (o__law_pair_claim : FnD P w K mg base "_law_pair_claim" 1 3 (m__law_pair_claim)) (o_pair_claim : FnD P w K mg base "pair_claim" 1 3 (m_pair_claim)) (o__law_wish_claim : FnD P w K mg base "_law_wish_claim" 1 2 (m__law_wish_claim)) (o_wish_claim : FnD P w K mg base "wish_claim" 1 2 (m_wish_claim)) (o__law_nothing : FnD P w K mg base "_law_nothing" 1 1 (m__law_nothing)) (o_nothing : FnD P w K mg base "nothing" 1 1 (m_nothing)) (o__law_cell : FnD P w K mg base "_law_cell" 1 2 (m__law_cell)) (o__law_draws : FnD P w K mg base "_law_draws" 1 2 (m__law_draws)) (o__law_claim : FnD P w K mg base "_law_claim" 2 2 (m__law_claim)) : FnD P w K mg base "law" 5 1 m_law := fnD_mk F hm sc_law (body_law B o__law_multiple o_is_multiple o__law_bools o__law_small_is_blend o_is_blend o__law_worth o_number_at o__law_same o__law_blend_of o_filling_blend o__law_pair_claim o_pair_claim o__law_wish_claim o_wish_claim o__law_nothing o_nothing o__law_cell o__law_draws o__law_claim) (FunD.bindsN F fun _ _ _ _ _ _ us hl => match us, hl with | [_], _ => rfl) rfl
end
def d__law_multiple : He.DefD := ⟨("_law_multiple", none), "_law_multiple", "_law_multiple", defArgs s__law_multiple, defBody s__law_multiple, defScope s__law_multiple, [], []⟩
def d_is_multiple : He.DefD := ⟨("is_multiple", none), "is_multiple", "is_multiple", defArgs s_is_multiple, defBody s_is_multiple, defScope s_is_multiple, [], []⟩
def d__law_bools : He.DefD := ⟨("_law_bools", none), "_law_bools", "_law_bools", defArgs s__law_bools, defBody s__law_bools, defScope s__law_bools, [], []⟩
def d__law_small_is_blend : He.DefD := ⟨("_law_small_is_blend", none), "_law_small_is_blend", "_law_small_is_blend", defArgs s__law_small_is_blend, defBody s__law_small_is_blend, defScope s__law_small_is_blend, [], []⟩
def d_is_blend : He.DefD := ⟨("is_blend", none), "is_blend", "is_blend", defArgs s_is_blend, defBody s_is_blend, defScope s_is_blend, [], []⟩
def d__law_worth : He.DefD := ⟨("_law_worth", none), "_law_worth", "_law_worth", defArgs s__law_worth, defBody s__law_worth, defScope s__law_worth, [], []⟩
def d_number_at : He.DefD := ⟨("number_at", none), "number_at", "number_at", defArgs s_number_at, defBody s_number_at, defScope s_number_at, [], []⟩
def d__law_same : He.DefD := ⟨("_law_same", none), "_law_same", "_law_same", defArgs s__law_same, defBody s__law_same, defScope s__law_same, [], []⟩
def d__law_blend_of : He.DefD := ⟨("_law_blend_of", none), "_law_blend_of", "_law_blend_of", defArgs s__law_blend_of, defBody s__law_blend_of, defScope s__law_blend_of, [], []⟩
def d_filling_blend : He.DefD := ⟨("filling_blend", none), "filling_blend", "filling_blend", defArgs s_filling_blend, defBody s_filling_blend, defScope s_filling_blend, [], []⟩
def d__law_pair_claim : He.DefD := ⟨("_law_pair_claim", none), "_law_pair_claim", "_law_pair_claim", defArgs s__law_pair_claim, defBody s__law_pair_claim, defScope s__law_pair_claim, [], []⟩
def d_pair_claim : He.DefD := ⟨("pair_claim", none), "pair_claim", "pair_claim", defArgs s_pair_claim, defBody s_pair_claim, defScope s_pair_claim, [], []⟩
def d__law_wish_claim : He.DefD := ⟨("_law_wish_claim", none), "_law_wish_claim", "_law_wish_claim", defArgs s__law_wish_claim, defBody s__law_wish_claim, defScope s__law_wish_claim, [], []⟩
def d_wish_claim : He.DefD := ⟨("wish_claim", none), "wish_claim", "wish_claim", defArgs s_wish_claim, defBody s_wish_claim, defScope s_wish_claim, [], []⟩
def d__law_nothing : He.DefD := ⟨("_law_nothing", none), "_law_nothing", "_law_nothing", defArgs s__law_nothing, defBody s__law_nothing, defScope s__law_nothing, [], []⟩
def d_nothing : He.DefD := ⟨("nothing", none), "nothing", "nothing", defArgs s_nothing, defBody s_nothing, defScope s_nothing, [], []⟩
def d__law_cell : He.DefD := ⟨("_law_cell", none), "_law_cell", "_law_cell", defArgs s__law_cell, defBody s__law_cell, defScope s__law_cell, [], []⟩
def d__law_draws : He.DefD := ⟨("_law_draws", none), "_law_draws", "_law_draws", defArgs s__law_draws, defBody s__law_draws, defScope s__law_draws, [], []⟩
def d__law_claim : He.DefD := ⟨("_law_claim", none), "_law_claim", "_law_claim", defArgs s__law_claim, defBody s__law_claim, defScope s__law_claim, [], []⟩
def d_law : He.DefD := ⟨("law", none), "law", "law", defArgs s_law, defBody s_law, defScope s_law, [], []⟩
def fn : List He.DefD := [d__law_multiple, d_is_multiple, d__law_bools, d__law_small_is_blend, d_is_blend, d__law_worth, d_number_at, d__law_same, d__law_blend_of, d_filling_blend, d__law_pair_claim, d_pair_claim, d__law_wish_claim, d_wish_claim, d__law_nothing, d_nothing, d__law_cell, d__law_draws, d__law_claim, d_law]
def fa : List He.Fa := [.glo "_law_multiple", .glo "is_multiple", .glo "_law_bools", .glo "_law_small_is_blend", .glo "is_blend", .glo "_law_worth", .glo "number_at", .glo "_law_same", .glo "_law_blend_of", .glo "filling_blend", .glo "_law_pair_claim", .glo "pair_claim", .glo "_law_wish_claim", .glo "wish_claim", .glo "_law_nothing", .glo "nothing", .glo "_law_cell", .glo "_law_draws", .glo "_law_claim", .glo "law", .free "tuple", .free "zip", .free "sum", .free "all", .free "bool", .free "isinstance", .free "int", .free "str", .free "len", .free "range", .free "abs"]
abbrev R : PySem.W.OpenRow := PySem.W.OpenLaw.row PySem.Challenge.rw_liftedliars_k07_claims_and_blends
abbrev hk : PySem.W.Hook := He.hookD 4 fa fn
def ob (s : PySem.W.SharedT) : He.AlD := He.obsDG 4 fa fn (HandSHeadRun.getT s)
theorem ob_eq (s : PySem.W.SharedT) : ob s = hk.obs s.abs := He.obsDG_eq (HandSHeadRun.getT_eq s)
def loose : List Str := ["nothing", "pair_claim", "wish_claim", "number_at", "is_blend", "is_multiple", "filling_blend", "_law_same", "_law_cell", "_law_draws", "_law_wish_claim", "_law_pair_claim", "_law_nothing", "_law_worth", "_law_blend_of", "_law_multiple", "_law_claim", "_law_bools", "_law_small_is_blend"]
theorem run (w : World) : HandSHeadRun.RunEq R (PySem.W.view R.prog [21]) hk ob 900 loose w := by
  intro os
  kernel_rfl
theorem facts {P : Program} {w : World} {K : PySem.W.Frag} {h : Heap} {mg : Mg} {f : Addr} (X : K.In h) (G : h.Ns mainGlobals mg) (hfa : mg ("law" : Str) = some (.ref f)) (c : He.SaysD fa fn K) :
    ∃ fd : FuncData, (∀ (s : Shared) (v : Value), BindsTo s fd ⟨[v], []⟩ [("script", v)]) ∧ ∀ base : Heap, K.In base → base.Ns mainGlobals mg → FnOk P w K mg base (L2.CX P w) 5 f fd ["script"] (spD K mg 1 m_law) := by
  obtain ⟨fd__law_multiple, F__law_multiple⟩ := c.def_ 0 (d := d__law_multiple) rfl
  have g__law_multiple := He.glo_ok X G (c.fact 0 (f := .glo "_law_multiple") rfl)
  obtain ⟨fd_is_multiple, F_is_multiple⟩ := c.def_ 1 (d := d_is_multiple) rfl
  have g_is_multiple := He.glo_ok X G (c.fact 1 (f := .glo "is_multiple") rfl)
  obtain ⟨fd__law_bools, F__law_bools⟩ := c.def_ 2 (d := d__law_bools) rfl
  have g__law_bools := He.glo_ok X G (c.fact 2 (f := .glo "_law_bools") rfl)
  obtain ⟨fd__law_small_is_blend, F__law_small_is_blend⟩ := c.def_ 3 (d := d__law_small_is_blend) rfl
  have g__law_small_is_blend := He.glo_ok X G (c.fact 3 (f := .glo "_law_small_is_blend") rfl)
  obtain ⟨fd_is_blend, F_is_blend⟩ := c.def_ 4 (d := d_is_blend) rfl
  have g_is_blend := He.glo_ok X G (c.fact 4 (f := .glo "is_blend") rfl)
  obtain ⟨fd__law_worth, F__law_worth⟩ := c.def_ 5 (d := d__law_worth) rfl
  have g__law_worth := He.glo_ok X G (c.fact 5 (f := .glo "_law_worth") rfl)
  obtain ⟨fd_number_at, F_number_at⟩ := c.def_ 6 (d := d_number_at) rfl
  have g_number_at := He.glo_ok X G (c.fact 6 (f := .glo "number_at") rfl)
  obtain ⟨fd__law_same, F__law_same⟩ := c.def_ 7 (d := d__law_same) rfl
  have g__law_same := He.glo_ok X G (c.fact 7 (f := .glo "_law_same") rfl)
  obtain ⟨fd__law_blend_of, F__law_blend_of⟩ := c.def_ 8 (d := d__law_blend_of) rfl
  have g__law_blend_of := He.glo_ok X G (c.fact 8 (f := .glo "_law_blend_of") rfl)
  obtain ⟨fd_filling_blend, F_filling_blend⟩ := c.def_ 9 (d := d_filling_blend) rfl
  have g_filling_blend := He.glo_ok X G (c.fact 9 (f := .glo "filling_blend") rfl)
  obtain ⟨fd__law_pair_claim, F__law_pair_claim⟩ := c.def_ 10 (d := d__law_pair_claim) rfl
  have g__law_pair_claim := He.glo_ok X G (c.fact 10 (f := .glo "_law_pair_claim") rfl)
  obtain ⟨fd_pair_claim, F_pair_claim⟩ := c.def_ 11 (d := d_pair_claim) rfl
  have g_pair_claim := He.glo_ok X G (c.fact 11 (f := .glo "pair_claim") rfl)
  obtain ⟨fd__law_wish_claim, F__law_wish_claim⟩ := c.def_ 12 (d := d__law_wish_claim) rfl
  have g__law_wish_claim := He.glo_ok X G (c.fact 12 (f := .glo "_law_wish_claim") rfl)
  obtain ⟨fd_wish_claim, F_wish_claim⟩ := c.def_ 13 (d := d_wish_claim) rfl
  have g_wish_claim := He.glo_ok X G (c.fact 13 (f := .glo "wish_claim") rfl)
  obtain ⟨fd__law_nothing, F__law_nothing⟩ := c.def_ 14 (d := d__law_nothing) rfl
  have g__law_nothing := He.glo_ok X G (c.fact 14 (f := .glo "_law_nothing") rfl)
  obtain ⟨fd_nothing, F_nothing⟩ := c.def_ 15 (d := d_nothing) rfl
  have g_nothing := He.glo_ok X G (c.fact 15 (f := .glo "nothing") rfl)
  obtain ⟨fd__law_cell, F__law_cell⟩ := c.def_ 16 (d := d__law_cell) rfl
  have g__law_cell := He.glo_ok X G (c.fact 16 (f := .glo "_law_cell") rfl)
  obtain ⟨fd__law_draws, F__law_draws⟩ := c.def_ 17 (d := d__law_draws) rfl
  have g__law_draws := He.glo_ok X G (c.fact 17 (f := .glo "_law_draws") rfl)
  obtain ⟨fd__law_claim, F__law_claim⟩ := c.def_ 18 (d := d__law_claim) rfl
  have g__law_claim := He.glo_ok X G (c.fact 18 (f := .glo "_law_claim") rfl)
  obtain ⟨fd_law, F_law⟩ := c.def_ 19 (d := d_law) rfl
  have g_law := He.glo_ok X G (c.fact 19 (f := .glo "law") rfl)
  have B : Bi mg := ⟨He.free_ok X G (c.fact 20 (f := .free "tuple") rfl), He.free_ok X G (c.fact 21 (f := .free "zip") rfl), He.free_ok X G (c.fact 22 (f := .free "sum") rfl), He.free_ok X G (c.fact 23 (f := .free "all") rfl), He.free_ok X G (c.fact 24 (f := .free "bool") rfl), He.free_ok X G (c.fact 25 (f := .free "isinstance") rfl), He.free_ok X G (c.fact 26 (f := .free "int") rfl), He.free_ok X G (c.fact 27 (f := .free "str") rfl), He.free_ok X G (c.fact 28 (f := .free "len") rfl), He.free_ok X G (c.fact 29 (f := .free "range") rfl), He.free_ok X G (c.fact 30 (f := .free "abs") rfl)⟩
  have e := hfa.symm.trans g_law
  cases e
  have b := FunD.bindsA (ps := ["script"]) F_law fun _ _ _ _ _ _ us hl => match us, hl with | [_], _ => rfl
  refine ⟨fd_law, fun s v => b s [v] rfl, fun base _ _ => ?_⟩
  have o__law_multiple : FnD P w K mg base "_law_multiple" 1 2 m__law_multiple := ok__law_multiple F__law_multiple g__law_multiple B 
  have o_is_multiple : FnD P w K mg base "is_multiple" 1 2 m_is_multiple := ok_is_multiple F_is_multiple g_is_multiple B 
  have o__law_bools : FnD P w K mg base "_law_bools" 1 2 m__law_bools := ok__law_bools F__law_bools g__law_bools B 
  have o__law_small_is_blend : FnD P w K mg base "_law_small_is_blend" 1 1 m__law_small_is_blend := ok__law_small_is_blend F__law_small_is_blend g__law_small_is_blend B 
  have o_is_blend : FnD P w K mg base "is_blend" 1 1 m_is_blend := ok_is_blend F_is_blend g_is_blend B 
  have o__law_worth : FnD P w K mg base "_law_worth" 1 2 m__law_worth := ok__law_worth F__law_worth g__law_worth B 
  have o_number_at : FnD P w K mg base "number_at" 1 2 m_number_at := ok_number_at F_number_at g_number_at B 
  have o__law_same : FnD P w K mg base "_law_same" 4 2 (m__law_same 3) := ok__law_same F__law_same g__law_same B  3
  have o__law_blend_of : FnD P w K mg base "_law_blend_of" 1 1 m__law_blend_of := ok__law_blend_of F__law_blend_of g__law_blend_of B 
  have o_filling_blend : FnD P w K mg base "filling_blend" 1 1 m_filling_blend := ok_filling_blend F_filling_blend g_filling_blend B 
  have o__law_pair_claim : FnD P w K mg base "_law_pair_claim" 1 3 m__law_pair_claim := ok__law_pair_claim F__law_pair_claim g__law_pair_claim B 
  have o_pair_claim : FnD P w K mg base "pair_claim" 1 3 m_pair_claim := ok_pair_claim F_pair_claim g_pair_claim B 
  have o__law_wish_claim : FnD P w K mg base "_law_wish_claim" 1 2 m__law_wish_claim := ok__law_wish_claim F__law_wish_claim g__law_wish_claim B 
  have o_wish_claim : FnD P w K mg base "wish_claim" 1 2 m_wish_claim := ok_wish_claim F_wish_claim g_wish_claim B 
  have o__law_nothing : FnD P w K mg base "_law_nothing" 1 1 m__law_nothing := ok__law_nothing F__law_nothing g__law_nothing B 
  have o_nothing : FnD P w K mg base "nothing" 1 1 m_nothing := ok_nothing F_nothing g_nothing B 
  have o__law_cell : FnD P w K mg base "_law_cell" 1 2 m__law_cell := ok__law_cell F__law_cell g__law_cell B 
  have o__law_draws : FnD P w K mg base "_law_draws" 1 2 m__law_draws := ok__law_draws F__law_draws g__law_draws B 
  have o__law_claim : FnD P w K mg base "_law_claim" 2 2 m__law_claim := ok__law_claim F__law_claim g__law_claim B o__law_draws
  exact funD_ok F_law sc_law (body_law B o__law_multiple o_is_multiple o__law_bools o__law_small_is_blend o_is_blend o__law_worth o_number_at o__law_same o__law_blend_of o_filling_blend o__law_pair_claim o_pair_claim o__law_wish_claim o_wish_claim o__law_nothing o_nothing o__law_cell o__law_draws o__law_claim)
end LK

namespace LK
open PySem PySem.Spec PyProof.Rows L2 DL
theorem plain_neg (n : Nat) : plainL (D.int (-1) :: List.replicate n (D.int 0)) = true := by have := plainL_int (-1 :: List.replicate n 0); simpa using this
theorem nothing_eq (n : Nat) (h : n ≤ 40) : m_nothing [.int n] = some (.ok (.tup ((-1 :: List.replicate n 0).map D.int))) := by
  unfold m_nothing b_nothing
  have h2 := plain_neg n
  have h3 : ∀ μ, gMul μ (D.tup [D.int 0]) (.int n) = some (.tup (List.replicate n (D.int 0))) := fun μ => by
    rw [mul_tup (by omega) (by omega) (by simp)]; simp
  have h4 : ∀ μ, gAdd μ (D.tup [D.int (-1)]) (D.tup (List.replicate n (D.int 0))) = some (.tup (D.int (-1) :: List.replicate n (D.int 0))) := fun μ => by
    rw [add_tup (by simp; omega)]; rfl
  simp [out_tup h2, h3, h4]
theorem law_nothing_eq (n : Nat) (h : n ≤ 40) : m__law_nothing [.int n] = some (.ok (.tup ((-1 :: List.replicate n 0).map D.int))) := by
  unfold m__law_nothing b__law_nothing
  have h1 : _law_nothing_c1 [some (D.int ↑n), none] [] = some (.ok (.new ((List.range n).map fun _ => D.int 0)), []) :=
    eLc_all (List.range n) (fun i : Nat => D.int i) (fun _ => D.int 0) (iR1_of rfl (by omega)) rfl (by simp; omega) trivial fun a ha => ⟨_, rfl, rfl, rfl⟩
  have h2 := plain_neg n
  have h3 : (List.range n).map (fun _ => D.int 0) = List.replicate n (D.int 0) := by simp [List.map_const']
  rw [h3] at h1
  have h4 : ∀ μ, gAdd μ (.new [D.int (-1)]) (.new (List.replicate n (D.int 0))) = some (.new (D.int (-1) :: List.replicate n (D.int 0))) := fun μ => add_nn (by simp; omega)
  simp [h1, h4, out_tup h2]
end LK

namespace LK
open PySem PySem.Spec PyProof.Rows L2 DL
theorem okI (l : List Int) : okAL (l.map D.int) = true := okAL_map (fun _ => rfl) l
theorem same_int (d : Nat) (i j : Int) : m__law_same (d + 1) [.int i, .int j] = some (.ok (.bl (decide (i = j)))) := by
  unfold m__law_same b__law_same
  simp
theorem same_l (d : Nat) (xs : List Int) (h : xs.length ≤ 1000) : ∃ o, _law_same_l1 (m__law_same (d + 1)) [some (.tup (xs.map D.int)), some (.tup (xs.map D.int)), none] [] = some (.nx, [some (.tup (xs.map D.int)), some (.tup (xs.map D.int)), o], []) := by
  unfold _law_same_l1
  rw [sFor_of (iR1_of (n := xs.length) (by simp) (by omega))]
  obtain ⟨sd2, μ2, h1, o, rfl, rfl⟩ := loop_nx (chk := fun _ => True) (t := gD 2) (b := _law_same_b1 (m__law_same (d + 1))) (fun i : Nat => D.int i)
    (fun dn sd μ => ∃ o, sd = [some (.tup (xs.map D.int)), some (.tup (xs.map D.int)), o] ∧ μ = []) (List.range xs.length) [] [some (.tup (xs.map D.int)), some (.tup (xs.map D.int)), none] [] ⟨none, rfl, rfl⟩ (by
      rintro dn x rest sd μ he ⟨o, rfl, rfl⟩
      have hx : x < xs.length := by
        have : x ∈ List.range xs.length := by rw [show List.range xs.length = dn ++ x :: rest from he]; simp
        simpa using this
      have hi : ∀ μ, gIx μ (.tup (xs.map D.int)) (.int x) = some (.int (xs.getD x 0)) := fun μ => ix_int (.inl rfl) (by omega) (by omega)
      refine ⟨_, _, rfl, [some (.tup (xs.map D.int)), some (.tup (xs.map D.int)), some (.int x)], [], ?_, trivial, _, rfl, rfl⟩
      unfold _law_same_b1
      simp [hi, same_int])
  exact ⟨o, h1⟩
theorem same_tup (d : Nat) (xs : List Int) (h : xs.length ≤ 1000) : m__law_same (d + 2) [.tup (xs.map D.int), .tup (xs.map D.int)] = some (.ok (.bl true)) := by
  obtain ⟨o, hl⟩ := same_l d xs h
  unfold m__law_same b__law_same
  simp [hl]
theorem cell_eq (ns : List Int) (k : Nat) (h : ns.length ≤ 63) : ∃ c : Int, m__law_cell [.lck (ns.map D.int), .int k] = some (.ok (.int c)) := by
  unfold m__law_cell b__law_cell
  by_cases hk : k < ns.length
  · have hi : ∀ μ, gIx μ (.lck (ns.map D.int)) (.int k) = some (.int (ns.getD k 0)) := fun μ => ix_int (.inr rfl) (by omega) (by omega)
    exact ⟨ns.getD k 0, by simp [hk, hi]⟩
  · exact ⟨0, by simp [hk]⟩
end LK

namespace LK
open PySem PySem.Spec PyProof.Rows L2 DL
def Dr (l : List Int) : Prop := ∀ x ∈ l, 0 ≤ x ∧ x < 60
theorem Dr.snoc {l : List Int} {x : Int} (h : Dr l) (h0 : 0 ≤ x) (h1 : x < 60) : Dr (l ++ [x]) := fun y hy => by
  rcases List.mem_append.mp hy with q | q
  · exact h y q
  · rw [List.mem_singleton.mp q]; exact ⟨h0, h1⟩
theorem draws_b2 (c r n : Int) (l : List Int) (k : Nat) (hl : l.length ≤ 1000) :
    _law_draws_b2 [some (.int c), some (.int n), some (.ref 0), some (.int r), some (.int k), none, none] [.lst (l.map D.int)] =
      some (.nx, [some (.int c), some (.int n), some (.ref 0), some (.int (r / 60)), some (.int k), none, none], [.lst ((l ++ [r % 60]).map D.int)]) := by
  have h1 : ∀ d : Int, muAppend [.lst (l.map D.int)] (.ref 0) [.int d] = some (.non, [.lst ((l ++ [d]).map D.int)]) := fun d => by
    rw [app_ref (es := l.map D.int) rfl (by simp; omega) rfl]
    simp
  have h2 : ∀ μ, gModI μ (.int r) (.int 60) = some (.int (r % 60)) := fun μ => mod_int (by decide)
  have h3 : ∀ μ, gDivI μ (.int r) (.int 60) = some (.int (r / 60)) := fun μ => div_int ⟨by decide, by decide⟩
  unfold _law_draws_b2
  simp [h1, h2, h3]
theorem small_mul {i j : Int} (a b : Nat) (ha : i.natAbs < 2 ^ a) (hb : j.natAbs < 2 ^ b) (h0 : 0 < a := by decide) (h1 : 0 < b := by decide) (h : a + b ≤ 1000000 := by decide) : CMulW i j := wide_mul ha hb h0 h1 h
theorem draws_b1 (c r n st : Int) (o : Option D) (l : List Int) (k : Nat) (hk : k ≤ 1000) (hs : st.natAbs < 2 ^ 70) (hl : l.length ≤ 1000) : ∃ (st' x : Int) (o' : Option D), st'.natAbs < 2 ^ 70 ∧ 0 ≤ x ∧ x < 60 ∧
    _law_draws_b1 [some (.int c), some (.int n), some (.ref 0), some (.int r), some (.int k), some (.int st), o] [.lst (l.map D.int)] =
      some (.nx, [some (.int c), some (.int n), some (.ref 0), some (.int r), some (.int k), some (.int st'), o'], [.lst ((l ++ [x]).map D.int)]) := by
  have h1 : ∀ d : Int, muAppend [.lst (l.map D.int)] (.ref 0) [.int d] = some (.non, [.lst ((l ++ [d]).map D.int)]) := fun d => by
    rw [app_ref (es := l.map D.int) rfl (by simp; omega) rfl]
    simp
  have h2 : ∀ μ (r : Int), gModI μ (.int r) (.int 60) = some (.int (r % 60)) := fun μ r => mod_int (by decide)
  have h3 : ∀ μ (r : Int), gDivI μ (.int r) (.int 3) = some (.int (r / 3)) := fun μ r => div_int ⟨by decide, by decide⟩
  have h4 : ∀ μ (r : Int), gModI μ (.int r) (.int 2147483647) = some (.int (r % 2147483647)) := fun μ r => mod_int (by decide)
  have h5 : ∀ μ (r : Int), gModI μ (.int r) (.int 1000003) = some (.int (r % 1000003)) := fun μ r => mod_int (by decide)
  have h6 : ∀ μ, gMul μ (.int st) (.int 48271) = some (.int (st * 48271)) := fun μ => mul_int (small_mul 70 20 hs (by decide))
  have h7 : ∀ μ, gMul μ (.int 12345) (.int k) = some (.int (12345 * k)) := fun μ => mul_int (small_mul 20 20 (by decide) (by omega))
  have hst : ((st * 48271 + 12345 * k + 7) % 2147483647).natAbs < 2 ^ 70 := by omega
  have h8 : ∀ μ, gMul μ (.int ((st * 48271 + 12345 * k + 7) % 2147483647)) (.int 69621) = some (.int ((st * 48271 + 12345 * k + 7) % 2147483647 * 69621)) := fun μ => mul_int (small_mul 70 20 hst (by decide))
  refine ⟨(st * 48271 + 12345 * k + 7) % 2147483647, ((st * 48271 + 12345 * k + 7) % 2147483647 * 69621 + k) % 1000003 / 3 % 60, some (.int (((st * 48271 + 12345 * k + 7) % 2147483647 * 69621 + k) % 1000003)), hst, by omega, by omega, ?_⟩
  unfold _law_draws_b1
  simp only [sSeq_e, sAsg_e, sDrop_e, eOwn_e, eBin_e, eCB_e, eCons_e, eNil_e, eV_e, eC_e, eMu_e, List.getElem?_cons_zero, List.getElem?_cons_succ, h6, h7, DL.add_int, int_int, h4, gD_e, List.set_cons_succ, List.set_cons_zero, h8, h5, h3, h2, isl_ref, h1]
theorem draws_eq (c : Int) (n : Nat) (h : n ≤ 100) : ∃ l : List Int, m__law_draws [.int c, .int n] = some (.ok (.new (l.map D.int))) ∧ l.length = n ∧ Dr l := by
  have hp : ∀ μ, gPowI μ (.int 10) (.int 18) = some (.int 1000000000000000000) := fun μ => by rw [pow_int ⟨by decide, by decide, by decide⟩]; rfl
  have hrange : ∀ (sd : Sl) (μ : Mem), sd[1]? = some (some (.int n)) → iR1 (eCons (eV 1) eNil) sd μ = some (.ok ((List.range n).map (fun i : Nat => D.int i), fun _ => True), μ) := fun sd μ q => iR1_of (by simp [q]) (by omega)
  generalize hr : (if c < 0 then -c else c) = r
  have hl2 : ∃ (sd : Sl) (l : List Int), _law_draws_l2 [some (.int c), some (.int n), some (.ref 0), some (.int r), none, none, none] [.lst []] = some (.nx, sd, [.lst (l.map D.int)]) ∧ l.length = n ∧ Dr l ∧ sd[2]? = some (some (.ref 0)) := by
    unfold _law_draws_l2
    rw [sFor_of (hrange _ _ rfl)]
    obtain ⟨sd2, μ2, h1, l, r', o, hl, hd, rfl, rfl⟩ := loop_nx (chk := fun _ => True) (t := gD 4) (b := _law_draws_b2) (fun i : Nat => D.int i)
      (fun dn sd μ => ∃ (l : List Int) (r' : Int) (o : Option D), l.length = dn.length ∧ Dr l ∧ sd = [some (.int c), some (.int n), some (.ref 0), some (.int r'), o, none, none] ∧ μ = [.lst (l.map D.int)]) (List.range n) [] _ _ ⟨[], r, none, rfl, fun x hx => by simp at hx, rfl, rfl⟩ (by
        rintro dn x rest sd μ he ⟨l, r', o, hl, hd, rfl, rfl⟩
        have hlen : dn.length < n := by have := congrArg List.length he; simp at this; omega
        exact ⟨_, _, rfl, _, _, draws_b2 c r' n l x (by omega), trivial, l ++ [r' % 60], r' / 60, some (.int x), by simp [hl], hd.snoc (by omega) (by omega), rfl, rfl⟩)
    exact ⟨_, l, h1, by simpa using hl, hd, rfl⟩
  have hl1 : r < 1000000000000000000 → ∃ (sd : Sl) (l : List Int), _law_draws_l1 [some (.int c), some (.int n), some (.ref 0), some (.int r), none, some (.int (r + 17)), none] [.lst []] = some (.nx, sd, [.lst (l.map D.int)]) ∧ l.length = n ∧ Dr l ∧ sd[2]? = some (some (.ref 0)) := fun hs => by
    unfold _law_draws_l1
    rw [sFor_of (hrange _ _ rfl)]
    obtain ⟨sd2, μ2, h1, l, st, o, o2, hl, hd, hs, rfl, rfl⟩ := loop_nx (chk := fun _ => True) (t := gD 4) (b := _law_draws_b1) (fun i : Nat => D.int i)
      (fun dn sd μ => ∃ (l : List Int) (st : Int) (o o2 : Option D), l.length = dn.length ∧ Dr l ∧ st.natAbs < 2 ^ 70 ∧ sd = [some (.int c), some (.int n), some (.ref 0), some (.int r), o, some (.int st), o2] ∧ μ = [.lst (l.map D.int)]) (List.range n) [] _ _
        ⟨[], r + 17, none, none, rfl, fun x hx => by simp at hx, by omega, rfl, rfl⟩ (by
        rintro dn x rest sd μ he ⟨l, st, o, o2, hl, hd, hst, rfl, rfl⟩
        have hlen : dn.length < n := by have := congrArg List.length he; simp at this; omega
        have hx : x < n := by
          have : x ∈ List.range n := by rw [show List.range n = dn ++ x :: rest from he]; simp
          simpa using this
        obtain ⟨st', y, o', a, b, b2, e⟩ := draws_b1 c r n st o2 l x (by omega) hst (by omega)
        exact ⟨_, _, rfl, _, _, e, trivial, l ++ [y], st', _, _, by simp [hl], hd.snoc b b2, a, rfl, rfl⟩)
    exact ⟨_, l, h1, by simpa using hl, hd, rfl⟩
  unfold m__law_draws b__law_draws
  by_cases hb : 1000000000000000000 ≤ r
  · obtain ⟨sd, l, e, hl, hd, hsd⟩ := hl2
    have ho : outD [.lst (l.map D.int)] (.ref 0) = some (.new (l.map D.int)) := out_ref rfl (plainL_int l)
    exact ⟨l, by simp [hr, hp, hb, e, hsd, ho], hl, hd⟩
  · obtain ⟨sd, l, e, hl, hd, hsd⟩ := hl1 (by omega)
    have ho : outD [.lst (l.map D.int)] (.ref 0) = some (.new (l.map D.int)) := out_ref rfl (plainL_int l)
    exact ⟨l, by simp [hr, hp, hb, e, hsd, ho], hl, hd⟩
end LK

namespace LK
open PySem PySem.Spec PyProof.Rows L2 DL
def Sm (x : Int) : Prop := x.natAbs < 2 ^ 200
theorem mul_sm {μ : Mem} {i j : Int} (hi : Sm i) (hj : Sm j) : gMul μ (.int i) (.int j) = some (.int (i * j)) := mul_int (small_mul 200 200 hi hj)
def Row (l : List Int) : Prop := ∀ x ∈ l, Sm x
theorem Row.getD {l : List Int} (h : Row l) (k : Nat) : Sm (l.getD k 0) := by
  by_cases hk : k < l.length
  · have : l.getD k 0 = l[k] := by simp [List.getD, hk]
    rw [this]
    exact h _ (List.getElem_mem hk)
  · have : l.getD k 0 = 0 := by simp [List.getD, List.getElem?_eq_none (by omega : l.length ≤ k)]
    rw [this]
    show (0 : Int).natAbs < 2 ^ 200
    decide
theorem map2 {α β : Type} (f : α → β) (e : β → D) (l : List α) : l.map (fun a => e (f a)) = (l.map f).map e := by rw [List.map_map]; rfl
/-! ### number_at, _law_worth -/
theorem number_at_eq (c b : List Int) (hc : Row c) (hb : Row b) (hl : c.length ≤ 100) : m_number_at [.tup (c.map D.int), .tup (b.map D.int)] = some (.ok (.int ((c.zip b).map fun p => p.1 * p.2).sum)) := by
  have h1 : number_at_c1 [some (.tup (c.map D.int)), some (.tup (b.map D.int)), none, none] [] = some (.ok (.new ((c.zip b).map fun p => D.int (p.1 * p.2))), []) :=
    eLc_all (c.zip b) (fun p => D.tup [.int p.1, .int p.2]) (fun p => D.int (p.1 * p.2)) (iZip_tup rfl) (zip_map D.int D.int c b) (by simp; omega) ⟨trivial, trivial⟩ fun a ha => by
      have h2 : ∀ μ, gMul μ (.int a.1) (.int a.2) = some (.int (a.1 * a.2)) := fun μ => mul_sm (hc _ (List.of_mem_zip ha).1) (hb _ (List.of_mem_zip ha).2)
      refine ⟨_, rfl, ?_, rfl⟩
      simp [wipeD, h2]
  rw [map2 (fun p : Int × Int => p.1 * p.2) D.int] at h1
  generalize (c.zip b).map (fun p => p.1 * p.2) = L at h1 ⊢
  unfold m_number_at b_number_at
  simp [h1, sum_new]
theorem worth_eq (c b : List Int) (hc : Row c) (hb : Row b) (hl : c.length ≤ 100) (he : c.length = b.length) : m__law_worth [.tup (c.map D.int), .tup (b.map D.int)] = some (.ok (.int ((List.range c.length).map fun k => c.getD k 0 * b.getD k 0).sum)) := by
  have h1 : _law_worth_c1 [some (.tup (c.map D.int)), some (.tup (b.map D.int)), none] [] = some (.ok (.new ((List.range c.length).map fun k => D.int (c.getD k 0 * b.getD k 0))), []) :=
    eLc_all (List.range c.length) (fun i : Nat => D.int i) (fun k => D.int (c.getD k 0 * b.getD k 0)) (iR1_of (n := c.length) (by simp) (by omega)) rfl (by simp; omega) trivial fun a ha => by
      have ha : a < c.length := by simpa using ha
      have h2 : ∀ μ, gMul μ (.int (c.getD a 0)) (.int (b.getD a 0)) = some (.int (c.getD a 0 * b.getD a 0)) := fun μ => mul_sm (hc.getD a) (hb.getD a)
      have h3 : ∀ μ, gIx μ (.tup (c.map D.int)) (.int a) = some (.int (c.getD a 0)) := fun μ => ix_int (.inl rfl) (by omega) (by omega)
      have h4 : ∀ μ, gIx μ (.tup (b.map D.int)) (.int a) = some (.int (b.getD a 0)) := fun μ => ix_int (.inl rfl) (by omega) (by omega)
      refine ⟨_, rfl, ?_, rfl⟩
      simp only [wipeD, eBin_e, eV_e, List.getElem?_cons_zero, List.getElem?_cons_succ, List.set_cons_succ, List.set_cons_zero, h3, h4, h2]
  rw [map2 (fun k : Nat => c.getD k 0 * b.getD k 0) D.int] at h1
  generalize (List.range c.length).map (fun k : Nat => c.getD k 0 * b.getD k 0) = L at h1 ⊢
  unfold m__law_worth b__law_worth
  simp [h1, sum_new]
theorem zip_range : ∀ (c b : List Int), c.length = b.length → c.zip b = (List.range c.length).map fun k => (c.getD k 0, b.getD k 0) := fun c b h => by
  apply List.ext_getElem
  · simp [h]
  · intro i h1 h2
    have hi : i < c.length := by simpa using h2
    simp [hi, List.getD, show i < b.length by omega]
/-! ### is_blend -/
theorem is_blend_eq (x : Int) (r : List Int) (hl : r.length ≤ 100) : m_is_blend [.tup ((x :: r).map D.int)] = some (.ok (.bl (decide (x ≥ 0) && r.all fun y => decide (0 ≤ y) && decide (y ≤ x)))) := by
  have h0 : ∀ μ, gIx μ (.tup (D.int x :: r.map D.int)) (.int 0) = some (.int x) := fun μ => ix_int (l := x :: r) (.inl rfl) (by decide) (by simp)
  have h1 : is_blend_c1 [some (.tup (D.int x :: r.map D.int)), none] [] = some (.ok (.new (r.map fun y => D.bl (decide (0 ≤ y) && decide (y ≤ x)))), []) :=
    eLc_all r D.int (fun y => D.bl (decide (0 ≤ y) && decide (y ≤ x))) (ds := r.map D.int) (chk := fun _ => True) (by simp [sl_tup1]) rfl (by omega) trivial fun a ha => by
      refine ⟨_, rfl, ?_, rfl⟩
      simp only [wipeD, eChain_e, eBin_e, eC_e, eV_e, List.getElem?_cons_zero, List.getElem?_cons_succ, List.set_cons_succ, List.set_cons_zero, DL.le_int]
      by_cases q : 0 ≤ a
      · simp [q, h0]
      · simp [q]
  rw [map2 (fun y => decide (0 ≤ y) && decide (y ≤ x)) D.bl] at h1
  have h2 : (r.all fun y => decide (0 ≤ y) && decide (y ≤ x)) = (r.map fun y => decide (0 ≤ y) && decide (y ≤ x)).all id := by simp [List.all_map, Function.comp_def]
  rw [h2]
  generalize (r.map fun y => decide (0 ≤ y) && decide (y ≤ x)) = L at h1 ⊢
  unfold m_is_blend b_is_blend
  by_cases q : x ≥ 0
  · simp [h0, q, h1, all_new]
  · simp [h0, q]
theorem small_blend_eq (x : Int) (r : List Int) (hl : r.length ≤ 100) : m__law_small_is_blend [.tup ((x :: r).map D.int)] = some (.ok (.bl (decide (x ≥ 0) && r.all fun y => decide (0 ≤ y) && decide (y ≤ x)))) := by
  have h0 : ∀ μ, gIx μ (.tup (D.int x :: r.map D.int)) (.int 0) = some (.int x) := fun μ => ix_int (l := x :: r) (.inl rfl) (by decide) (by simp)
  have h1 : _law_small_is_blend_c1 [some (.tup (D.int x :: r.map D.int)), none] [] = some (.ok (.new (((x :: r).filter fun y => decide (y < 0) || decide (y > x)).map D.int)), []) :=
    eLc_eq (x :: r) D.int (fun y => decide (y < 0) || decide (y > x)) D.int (ds := (x :: r).map D.int) (chk := fun _ => True) (by simp) rfl (by simp; omega) trivial fun a ha => by
      refine ⟨_, rfl, ?_, fun _ => ⟨rfl, rfl⟩⟩
      by_cases q : a < 0
      · simp [wipeD, q]
      · simp [wipeD, q, h0]
  unfold m__law_small_is_blend b__law_small_is_blend
  simp [h1]
  rw [Bool.eq_iff_iff]
  simp
theorem bools_eq (a b : Bool) : m__law_bools [.bl a, .bl b] = some (.ok (.bl (decide (a = b)))) := by
  unfold m__law_bools b__law_bools
  simp
/-! ### fillings -/
abbrev P2 (p : Int × Int) : D := .tup [.int p.1, .int p.2]
theorem ix2 (μ : Mem) (a b : Int) : gIx μ (.tup [.int a, .int b]) (.int 1) = some (.int b) := ix_int (l := [a, b]) (.inl rfl) (by decide) (by simp)
theorem ix1 (μ : Mem) (a b : Int) : gIx μ (.tup [.int a, .int b]) (.int 0) = some (.int a) := ix_int (l := [a, b]) (.inl rfl) (by decide) (by simp)
theorem blend_of_eq (f : List (Int × Int)) (hl : f.length ≤ 100) : m__law_blend_of [.tup (f.map P2)] = some (.ok (.tup ((1 :: f.map (·.2)).map D.int))) := by
  have h1 : _law_blend_of_c1 [some (.tup (f.map P2)), none] [] = some (.ok (.new (f.map fun p => D.int p.2)), []) :=
    eLc_all f P2 (fun p => D.int p.2) (ds := f.map P2) (chk := fun _ => True) (by simp) rfl (by omega) trivial fun a ha => ⟨_, rfl, by simp [wipeD, ix2], rfl⟩
  rw [map2 (fun p : Int × Int => p.2) D.int] at h1
  have hl : (f.map fun p => p.2).length ≤ 100 := by simpa using hl
  generalize (f.map fun p => p.2) = L at h1 hl ⊢
  have h2 : ∀ μ, gAdd μ (.new [D.int 1]) (.new (L.map D.int)) = some (.new (D.int 1 :: L.map D.int)) := fun μ => add_nn (by simp; omega)
  have h3 : plainL (D.int 1 :: L.map D.int) = true := plainL_int (1 :: L)
  unfold m__law_blend_of b__law_blend_of
  simp [h1, h2, out_tup h3]
theorem filling_blend_eq (f : List (Int × Int)) (hl : f.length ≤ 100) : m_filling_blend [.tup (f.map P2)] = some (.ok (.tup ((1 :: f.map (·.2)).map D.int))) := by
  have h1 : filling_blend_c1 [some (.tup (f.map P2)), none, none] [] = some (.ok (.new (f.map fun p => D.int p.2)), []) :=
    eLc_all f P2 (fun p => D.int p.2) (ds := f.map P2) (chk := fun _ => True) (by simp) rfl (by omega) trivial fun a ha => ⟨_, rfl, by simp [wipeD], rfl⟩
  rw [map2 (fun p : Int × Int => p.2) D.int] at h1
  have hl : (f.map fun p => p.2).length ≤ 100 := by simpa using hl
  generalize (f.map fun p => p.2) = L at h1 hl ⊢
  have h2 : ∀ μ, gAdd μ (.tup [D.int 1]) (.tup (L.map D.int)) = some (.tup (D.int 1 :: L.map D.int)) := fun μ => add_tup (by simp; omega)
  have h3 : plainL (D.int 1 :: L.map D.int) = true := plainL_int (1 :: L)
  unfold m_filling_blend b_filling_blend
  simp [h1, h2, out_tup h3]
end LK

namespace LK
open PySem PySem.Spec PyProof.Rows L2 DL
/-! ### pair claims -/
def pairC (n m : Nat) (a : Int) : List Int := ((1 - a) :: List.replicate n 0).set m (2 * a - 1)
theorem set_ints {l : List Int} {k : Nat} {x : Int} : (l.map D.int).set k (.int x) = (l.set k x).map D.int := by simp [List.map_set]
theorem st_ref {l : List Int} {k : Nat} {x : Int} (hk : k < l.length) : setM [.lst (l.map D.int)] (.ref 0) (.int k) (.int x) = some [.lst ((l.set k x).map D.int)] := by
  rw [set_ref (ds := l.map D.int) rfl (by simpa using hk) rfl, set_ints]
  rfl
theorem tup_ref (l : List Int) : gTuple [.lst (l.map D.int)] [.ref 0] = some (.tup (l.map D.int)) := tup_any rfl
theorem out_row (μ : Mem) (l : List Int) : outD μ (.tup (l.map D.int)) = some (.tup (l.map D.int)) := out_tup (plainL_int l)
theorem mul_small {μ : Mem} {a : Int} (h : a = 0 ∨ a = 1) : gMul μ (.int 2) (.int a) = some (.int (2 * a)) := mul_int (small_mul 20 20 (by decide) (by rcases h with rfl | rfl <;> decide))
theorem law_pair_eq (n m : Nat) (a : Int) (hn : n ≤ 40) (hm : m ≤ n) (ha : a = 0 ∨ a = 1) : m__law_pair_claim [.int m, .int a, .int n] = some (.ok (.tup ((pairC n m a).map D.int))) := by
  have h1 : _law_pair_claim_c1 [some (.int m), some (.int a), some (.int n), none, none] [] = some (.ok (.new ((List.range n).map fun _ => D.int 0)), []) :=
    eLc_all (List.range n) (fun i : Nat => D.int i) (fun _ => D.int 0) (iR1_of rfl (by omega)) rfl (by simp; omega) trivial fun a ha => ⟨_, rfl, rfl, rfl⟩
  have h3 : (List.range n).map (fun _ => D.int 0) = (List.replicate n 0).map D.int := by simp [List.map_const']
  rw [h3] at h1
  have h4 : ∀ μ, gAdd μ (.new [D.int (1 - a)]) (.new ((List.replicate n 0).map D.int)) = some (.new (((1 - a) :: List.replicate n 0).map D.int)) := fun μ => by
    rw [add_nn (by simp; omega)]
    rfl
  have h5 : ∀ x : Int, setM [.lst (((1 - a) :: List.replicate n 0).map D.int)] (.ref 0) (.int m) (.int x) = some [.lst ((((1 - a) :: List.replicate n 0).set m x).map D.int)] := fun x => st_ref (by simp; omega)
  have h6 := mul_small (μ := [.lst (((1 - a) :: List.replicate n 0).map D.int)]) ha
  have e : pairC n m a = ((1 - a) :: List.replicate n 0).set m (2 * a - 1) := rfl
  rw [e]
  generalize List.replicate n (0 : Int) = Z at *
  generalize (1 - a) :: Z = L at *
  have h7 := tup_ref (L.set m (2 * a - 1))
  have h8 := fun μ => out_row μ (L.set m (2 * a - 1))
  unfold m__law_pair_claim b__law_pair_claim
  simp [-List.map_set, h1, h4, h6, h5, h7, h8]
theorem pair_eq (n m : Nat) (a : Int) (hn : n ≤ 40) (hm1 : 1 ≤ m) (hm : m ≤ n) (ha : a = 0 ∨ a = 1) : m_pair_claim [.int n, .int m, .int a] = some (.ok (.tup ((pairC n m a).map D.int))) := by
  have h1 : ∀ μ, gMul μ (.new [D.int 0]) (.int (n + 1)) = some (.new ((List.replicate (n + 1) 0).map D.int)) := fun μ => by
    rw [mul_new (by omega) (by omega) (by simp)]
    rw [show ((n : Int) + 1).toNat = n + 1 by omega]
    simp
  have h2 : ∀ x : Int, setM [.lst ((List.replicate (n + 1) (0 : Int)).map D.int)] (.ref 0) (.int 0) (.int x) = some [.lst (((List.replicate (n + 1) (0 : Int)).set 0 x).map D.int)] := fun x => st_ref (k := 0) (by simp)
  have h5 : ∀ x : Int, setM [.lst (((List.replicate (n + 1) (0 : Int)).set 0 (1 - a)).map D.int)] (.ref 0) (.int m) (.int x) = some [.lst ((((List.replicate (n + 1) (0 : Int)).set 0 (1 - a)).set m x).map D.int)] := fun x => st_ref (by simp; omega)
  have h6 := mul_small (μ := [.lst (((List.replicate (n + 1) (0 : Int)).set 0 (1 - a)).map D.int)]) ha
  have e : pairC n m a = ((List.replicate (n + 1) (0 : Int)).set 0 (1 - a)).set m (2 * a - 1) := rfl
  rw [e]
  generalize (List.replicate (n + 1) (0 : Int)) = Z at *
  have h7 := tup_ref ((Z.set 0 (1 - a)).set m (2 * a - 1))
  have h8 := fun μ => out_row μ ((Z.set 0 (1 - a)).set m (2 * a - 1))
  unfold m_pair_claim b_pair_claim
  simp [-List.map_set, h1, h2, h6, h5, h7, h8]
/-! ### wish claims -/
def wst (l : List Int) (p : Int × Int) : List Int := (l.set 0 (l.getD 0 0 + (1 - p.2))).set p.1.toNat (2 * p.2 - 1)
def wishC (n : Nat) (w : List (Int × Int)) : List Int := w.foldl wst ((-1) :: List.replicate n 0)
def Wish (n : Nat) (w : List (Int × Int)) : Prop := ∀ p ∈ w, 1 ≤ p.1 ∧ p.1 ≤ n ∧ (p.2 = 0 ∨ p.2 = 1)
theorem wst_length (l : List Int) (p : Int × Int) : (wst l p).length = l.length := by simp [wst]
theorem fold_length (w : List (Int × Int)) : ∀ l : List Int, (w.foldl wst l).length = l.length := by
  induction w with
  | nil => intro l; rfl
  | cons p w ih => intro l; rw [List.foldl_cons, ih, wst_length]
theorem wish_b1 (n : Nat) (w : D) (p : Int × Int) (l : List Int) (hl : l.length = n + 1) (h1 : 1 ≤ p.1) (h2 : p.1 ≤ n) (h3 : p.2 = 0 ∨ p.2 = 1) :
    wish_claim_b1 [some (.int n), some w, some (.ref 0), some (.int p.1), some (.int p.2)] [.lst (l.map D.int)] = some (.nx, [some (.int n), some w, some (.ref 0), some (.int p.1), some (.int p.2)], [.lst ((wst l p).map D.int)]) := by
  obtain ⟨a, v⟩ := p
  obtain ⟨k, rfl⟩ := Int.eq_ofNat_of_zero_le (show 0 ≤ a by omega)
  have e1 : gIxL [.lst (l.map D.int)] (.ref 0) (.int 0) = some (.int (l.getD 0 0)) := ixL_ref (k := 0) rfl (by omega)
  have e2 : ∀ x : Int, setM [.lst (l.map D.int)] (.ref 0) (.int 0) (.int x) = some [.lst ((l.set 0 x).map D.int)] := fun x => st_ref (k := 0) (by omega)
  have e3 : ∀ x y : Int, setM [.lst ((l.set 0 x).map D.int)] (.ref 0) (.int k) (.int y) = some [.lst (((l.set 0 x).set k y).map D.int)] := fun x y => st_ref (by simp; omega)
  have e4 := fun x : Int => mul_small (μ := [.lst ((l.set 0 x).map D.int)]) h3
  have ep : posI (.int 0) = true := rfl
  have e5 : ∀ i j : Int, gAddI [.lst (l.map D.int)] (.int i) (.int j) = some (.int (i + j)) := fun _ _ => rfl
  have ew : wst l (((k : Nat) : Int), v) = (l.set 0 (l.getD 0 0 + (1 - v))).set k (2 * v - 1) := rfl
  rw [ew]
  unfold wish_claim_b1
  simp only [sSeq_e, sAugS_e, eV_e, eC_e, eBin_e, List.getElem?_cons_zero, List.getElem?_cons_succ, ep, if_true, e1, DL.sub_int, e5, e2, sAsg_e, e4, gSub_e, e3]
theorem wish_eq (n : Nat) (w : List (Int × Int)) (hn : n ≤ 40) (hw : Wish n w) : m_wish_claim [.int n, .tup (w.map P2)] = some (.ok (.tup ((wishC n w).map D.int))) := by
  have h1 : ∀ μ, gMul μ (.new [D.int 0]) (.int (n + 1)) = some (.new ((List.replicate (n + 1) 0).map D.int)) := fun μ => by
    rw [mul_new (by omega) (by omega) (by simp)]
    rw [show ((n : Int) + 1).toNat = n + 1 by omega]
    simp
  have h2 : ∀ x : Int, setM [.lst ((List.replicate (n + 1) (0 : Int)).map D.int)] (.ref 0) (.int 0) (.int x) = some [.lst (((List.replicate (n + 1) (0 : Int)).set 0 x).map D.int)] := fun x => st_ref (k := 0) (by simp)
  have hz : (List.replicate (n + 1) (0 : Int)).set 0 (-1) = (-1) :: List.replicate n 0 := rfl
  have hloop : ∃ sd, wish_claim_l1 [some (.int n), some (.tup (w.map P2)), some (.ref 0), none, none] [.lst (((List.replicate (n + 1) (0 : Int)).set 0 (-1)).map D.int)] = some (.nx, sd, [.lst ((wishC n w).map D.int)]) ∧ sd[2]? = some (some (.ref 0)) := by
    unfold wish_claim_l1
    rw [hz, sFor_of (ds := w.map P2) (chk := fun _ => True) (by simp)]
    obtain ⟨sd2, μ2, q, o, o2, rfl, rfl⟩ := loop_nx (chk := fun _ => True) (t := gTupD (gConsD (gD 3) (gConsD (gD 4) gNilD))) (b := wish_claim_b1) P2
      (fun dn sd μ => ∃ o o2, sd = [some (.int n), some (.tup (w.map P2)), some (.ref 0), o, o2] ∧ μ = [.lst ((wishC n dn).map D.int)]) w [] _ _ ⟨none, none, rfl, rfl⟩ (by
        rintro dn x rest sd μ he ⟨o, o2, rfl, rfl⟩
        have hx : x ∈ w := by rw [show w = dn ++ x :: rest from he]; simp
        obtain ⟨a, b, c⟩ := hw x hx
        refine ⟨_, _, rfl, _, _, wish_b1 n _ x (wishC n dn) (by unfold wishC; rw [fold_length]; simp) a b c, trivial, _, _, rfl, ?_⟩
        unfold wishC
        rw [List.foldl_append]
        rfl)
    exact ⟨_, q, rfl⟩
  obtain ⟨sd, hloop, hsd⟩ := hloop
  generalize (List.replicate (n + 1) (0 : Int)) = Z at *
  have h7 := tup_ref (wishC n w)
  have h8 := fun μ => out_row μ (wishC n w)
  unfold m_wish_claim b_wish_claim
  simp [-List.map_set, h1, h2, hloop, hsd, h7, h8]
end LK

namespace LK
open PySem PySem.Spec PyProof.Rows L2 DL
theorem wst_swap (l : List Int) (k : Nat) (v : Int) (hk : 1 ≤ k) (hl : 0 < l.length) : wst l ((k : Int), v) = (l.set k (2 * v - 1)).set 0 ((l.set k (2 * v - 1)).getD 0 0 + 1 - v) := by
  have h0 : (l.set k (2 * v - 1)).getD 0 0 = l.getD 0 0 := by
    simp [List.getD, List.getElem?_set, show ¬ k = 0 by omega]
  rw [h0]
  show (l.set 0 (l.getD 0 0 + (1 - v))).set k (2 * v - 1) = _
  rw [List.set_comm _ _ (by omega), show l.getD 0 0 + (1 - v) = l.getD 0 0 + 1 - v by omega]
theorem law_wish_b1 (n : Nat) (w : D) (p : Int × Int) (l : List Int) (hl : l.length = n + 1) (h1 : 1 ≤ p.1) (h2 : p.1 ≤ n) (h3 : p.2 = 0 ∨ p.2 = 1) (o : Option D) :
    _law_wish_claim_b1 [some w, some (.int n), some (.ref 0), some (P2 p), o] [.lst (l.map D.int)] = some (.nx, [some w, some (.int n), some (.ref 0), some (P2 p), o], [.lst ((wst l p).map D.int)]) := by
  obtain ⟨a, v⟩ := p
  obtain ⟨k, rfl⟩ := Int.eq_ofNat_of_zero_le (show 0 ≤ a by omega)
  have e1 : ∀ x : Int, gIx [.lst ((l.set k x).map D.int)] (.ref 0) (.int 0) = some (.int ((l.set k x).getD 0 0)) := fun x => ix_int (l := l.set k x) (.inr rfl) (by decide) (by simp; omega)
  have e2 : ∀ x : Int, setM [.lst (l.map D.int)] (.ref 0) (.int k) (.int x) = some [.lst ((l.set k x).map D.int)] := fun x => st_ref (by omega)
  have e3 : ∀ x y : Int, setM [.lst ((l.set k x).map D.int)] (.ref 0) (.int 0) (.int y) = some [.lst (((l.set k x).set 0 y).map D.int)] := fun x y => st_ref (k := 0) (by simp; omega)
  have e4 := mul_small (μ := [.lst (l.map D.int)]) h3
  rw [wst_swap l k v (by omega) (by omega)]
  unfold _law_wish_claim_b1
  simp only [sSeq_e, eV_e, eC_e, eBin_e, List.getElem?_cons_zero, List.getElem?_cons_succ, e1, DL.sub_int, DL.add_int, e2, sAsg_e, e4, gSub_e, e3, ix1, ix2]
theorem law_wish_eq (n : Nat) (w : List (Int × Int)) (hn : n ≤ 40) (hw : Wish n w) : m__law_wish_claim [.tup (w.map P2), .int n] = some (.ok (.tup ((wishC n w).map D.int))) := by
  have h1 : _law_wish_claim_c1 [some (.tup (w.map P2)), some (.int n), none, none, none] [] = some (.ok (.new ((List.range n).map fun _ => D.int 0)), []) :=
    eLc_all (List.range n) (fun i : Nat => D.int i) (fun _ => D.int 0) (iR1_of rfl (by omega)) rfl (by simp; omega) trivial fun a ha => ⟨_, rfl, rfl, rfl⟩
  have h3 : (List.range n).map (fun _ => D.int 0) = (List.replicate n 0).map D.int := by simp [List.map_const']
  rw [h3] at h1
  have h4 : ∀ μ, gAdd μ (.new [D.int (-1)]) (.new ((List.replicate n 0).map D.int)) = some (.new (((-1) :: List.replicate n 0).map D.int)) := fun μ => by
    rw [add_nn (by simp; omega)]
    rfl
  have hloop : ∃ sd, _law_wish_claim_l1 [some (.tup (w.map P2)), some (.int n), some (.ref 0), none, none] [.lst (((-1) :: List.replicate n 0).map D.int)] = some (.nx, sd, [.lst ((wishC n w).map D.int)]) ∧ sd[2]? = some (some (.ref 0)) := by
    unfold _law_wish_claim_l1
    rw [sFor_of (ds := w.map P2) (chk := fun _ => True) (by simp)]
    obtain ⟨sd2, μ2, q, o, rfl, rfl⟩ := loop_nx (chk := fun _ => True) (t := gD 3) (b := _law_wish_claim_b1) P2
      (fun dn sd μ => ∃ o, sd = [some (.tup (w.map P2)), some (.int n), some (.ref 0), o, none] ∧ μ = [.lst ((wishC n dn).map D.int)]) w [] _ _ ⟨none, rfl, rfl⟩ (by
        rintro dn x rest sd μ he ⟨o, rfl, rfl⟩
        have hx : x ∈ w := by rw [show w = dn ++ x :: rest from he]; simp
        obtain ⟨a, b, c⟩ := hw x hx
        refine ⟨_, _, rfl, _, _, law_wish_b1 n _ x (wishC n dn) (by unfold wishC; rw [fold_length]; simp) a b c none, trivial, _, rfl, ?_⟩
        unfold wishC
        rw [List.foldl_append]
        rfl)
    exact ⟨_, q, rfl⟩
  obtain ⟨sd, hloop, hsd⟩ := hloop
  generalize List.replicate n (0 : Int) = Z at *
  generalize (-1) :: Z = L at *
  have h7 := tup_ref (wishC n w)
  have h8 := fun μ => out_row μ (wishC n w)
  unfold m__law_wish_claim b__law_wish_claim
  simp [-List.map_set, h1, h4, hloop, hsd, h7, h8]
/-! ### claims from cells -/
theorem claim_b1 (c n : Int) (ds l : List Int) (k : Nat) (o : Option D) (hd : 2 * k + 1 < ds.length) (hk : k ≤ 100) (hl : l.length ≤ 1000) : ∃ x : Int, x.natAbs < 2 ^ 120 ∧
    _law_claim_b1 [some (.int c), some (.int n), some (.ref 0), some (.ref 1), some (.int k), o] [.lst (ds.map D.int), .lst (l.map D.int)] =
      some (.nx, [some (.int c), some (.int n), some (.ref 0), some (.ref 1), some (.int k), some (.int x)], [.lst (ds.map D.int), .lst ((l ++ [x]).map D.int)]) := by
  have h1 : ∀ d : Int, muAppend [.lst (ds.map D.int), .lst (l.map D.int)] (.ref 1) [.int d] = some (.non, [.lst (ds.map D.int), .lst ((l ++ [d]).map D.int)]) := fun d => by
    rw [app_ref (es := l.map D.int) rfl (by simp; omega) rfl]
    simp
  have h2 : ∀ μ, gMul μ (.int 2) (.int k) = some (.int (2 * k)) := fun μ => mul_int (small_mul 20 20 (by decide) (by omega))
  have h3 : gIx [.lst (ds.map D.int), .lst (l.map D.int)] (.ref 0) (.int (2 * k)) = some (.int (ds.getD (2 * k) 0)) := by
    have := ix_int (μ := [.lst (ds.map D.int), .lst (l.map D.int)]) (x := .ref 0) (l := ds) (i := 2 * (k : Int)) (.inr rfl) (by omega) (by omega)
    rw [this, show (2 * (k : Int)).toNat = 2 * k by omega]
  have h4 : gIx [.lst (ds.map D.int), .lst (l.map D.int)] (.ref 0) (.int (2 * k + 1)) = some (.int (ds.getD (2 * k + 1) 0)) := by
    have := ix_int (μ := [.lst (ds.map D.int), .lst (l.map D.int)]) (x := .ref 0) (l := ds) (i := 2 * (k : Int) + 1) (.inr rfl) (by omega) (by omega)
    rw [this, show (2 * (k : Int) + 1).toNat = 2 * k + 1 by omega]
  generalize ds.getD (2 * k) 0 = a at *
  generalize ds.getD (2 * k + 1) 0 = b at *
  have h5 : ∀ μ, gModI μ (.int a) (.int 7) = some (.int (a % 7)) := fun μ => mod_int (by decide)
  have h6 : ∀ μ, gPowI μ (.int 10) (.int 29) = some (.int 100000000000000000000000000000) := fun μ => by rw [pow_int ⟨by decide, by decide, by decide⟩]; rfl
  have h7 : ∀ μ, gMul μ (.int (a % 7 - 3)) (.int 100000000000000000000000000000) = some (.int ((a % 7 - 3) * 100000000000000000000000000000)) := fun μ => mul_int (small_mul 20 120 (by omega) (by decide))
  unfold _law_claim_b1
  by_cases q : b = 7
  · refine ⟨(a % 7 - 3) * 100000000000000000000000000000, by omega, ?_⟩
    simp [h1, h2, h3, h4, h5, h6, h7, q]
  · refine ⟨a % 7 - 3, by omega, ?_⟩
    simp [h1, h2, h3, h4, h5, q]
theorem claim_eq (c : Int) (n : Nat) (hn : n ≤ 40) : ∃ l : List Int, m__law_claim [.int c, .int n] = some (.ok (.tup (l.map D.int))) ∧ l.length = n + 1 ∧ ∀ x ∈ l, x.natAbs < 2 ^ 120 := by
  obtain ⟨ds, hds, hdl, _⟩ := draws_eq c (2 * n + 2) (by omega)
  have h2 : ∀ μ, gMul μ (.int 2) (.int n) = some (.int (2 * n)) := fun μ => mul_int (small_mul 20 20 (by decide) (by omega))
  have hds : m__law_draws [.int c, .int (2 * n + 2)] = some (.ok (.new (ds.map D.int))) := by
    have e : ((2 * n + 2 : Nat) : Int) = 2 * (n : Int) + 2 := by omega
    rw [← e]
    exact hds
  have hloop : ∃ (sd : Sl) (l : List Int), _law_claim_l1 [some (.int c), some (.int n), some (.ref 0), some (.ref 1), none, none] [.lst (ds.map D.int), .lst []] = some (.nx, sd, [.lst (ds.map D.int), .lst (l.map D.int)]) ∧ sd[3]? = some (some (.ref 1)) ∧ l.length = n + 1 ∧ ∀ x ∈ l, x.natAbs < 2 ^ 120 := by
    unfold _law_claim_l1
    rw [sFor_of (iR1_of (n := n + 1) (by simp) (by omega))]
    obtain ⟨sd2, μ2, q, l, o, o2, hl, hx, rfl, rfl⟩ := loop_nx (chk := fun _ => True) (t := gD 4) (b := _law_claim_b1) (fun i : Nat => D.int i)
      (fun dn sd μ => ∃ (l : List Int) (o o2 : Option D), l.length = dn.length ∧ (∀ x ∈ l, x.natAbs < 2 ^ 120) ∧ sd = [some (.int c), some (.int n), some (.ref 0), some (.ref 1), o, o2] ∧ μ = [.lst (ds.map D.int), .lst (l.map D.int)]) (List.range (n + 1)) [] _ _ ⟨[], none, none, rfl, fun x hx => by simp at hx, rfl, rfl⟩ (by
        rintro dn x rest sd μ he ⟨l, o, o2, hl, hx, rfl, rfl⟩
        have hlen : dn.length < n + 1 := by have := congrArg List.length he; simp at this; omega
        have hxn : x < n + 1 := by
          have : x ∈ List.range (n + 1) := by rw [show List.range (n + 1) = dn ++ x :: rest from he]; simp
          simpa using this
        obtain ⟨y, hy, e⟩ := claim_b1 c n ds l x o2 (by omega) (by omega) (by omega)
        refine ⟨_, _, rfl, _, _, e, trivial, l ++ [y], _, _, by simp [hl], fun z hz => ?_, rfl, rfl⟩
        rcases List.mem_append.mp hz with q | q
        · exact hx z q
        · rw [List.mem_singleton.mp q]; exact hy)
    exact ⟨_, l, q, rfl, by simpa using hl, hx⟩
  obtain ⟨sd, l, q, hsd, hl, hx⟩ := hloop
  refine ⟨l, ?_, hl, hx⟩
  have h7 : gTuple [.lst (ds.map D.int), .lst (l.map D.int)] [.ref 1] = some (.tup (l.map D.int)) := tup_any rfl
  have h8 := fun μ => out_row μ l
  unfold m__law_claim b__law_claim
  simp [-List.map_set, h2, hds, q, hsd, h7, h8]
end LK

namespace LK
open PySem PySem.Spec PyProof.Rows L2 DL
/-! ### is_multiple -/
def Cross (l : List (Int × Int)) : Prop := ∀ p ∈ l, ∀ q ∈ l, p.1 * q.2 = q.1 * p.2
def okP (p : Int × Int) : Bool := decide (p.1 * p.2 > 0) || (decide (p.1 = p.2) && decide (p.2 = 0))
open Classical in
noncomputable def isMul (l : List (Int × Int)) : Bool := if Cross l then l.all okP else false
section
variable (c g : List Int) (hc : Row c) (hg : Row g) (hl : c.length ≤ 100)
include hc hg hl
theorem zip_sm {p : Int × Int} (h : p ∈ c.zip g) : Sm p.1 ∧ Sm p.2 := ⟨hc _ (List.of_mem_zip h).1, hg _ (List.of_mem_zip h).2⟩
abbrev Pr (c g : List Int) (R : DL.Flow) : Prop := R = .ret (.bl false) ∧ ¬ Cross (c.zip g)
theorem inner (p : Int × Int) (hp : p ∈ c.zip g) (o o2 : Option D) :
    (∃ a b, is_multiple_l1 [some (.tup (c.map D.int)), some (.tup (g.map D.int)), some (.int p.1), some (.int p.2), o, o2] [] = some (.nx, [some (.tup (c.map D.int)), some (.tup (g.map D.int)), some (.int p.1), some (.int p.2), a, b], []) ∧ ∀ q ∈ c.zip g, p.1 * q.2 = q.1 * p.2) ∨
    ∃ d sd μ, is_multiple_l1 [some (.tup (c.map D.int)), some (.tup (g.map D.int)), some (.int p.1), some (.int p.2), o, o2] [] = some (.ret d, sd, μ) ∧ Pr c g (.ret d) := by
  have key : is_multiple_l1 [some (.tup (c.map D.int)), some (.tup (g.map D.int)), some (.int p.1), some (.int p.2), o, o2] [] =
      loopF (fun _ => True ∧ True) (gTupD (gConsD (gD 4) (gConsD (gD 5) gNilD))) is_multiple_b1 ((c.zip g).map fun p => D.tup [.int p.1, .int p.2]) [some (.tup (c.map D.int)), some (.tup (g.map D.int)), some (.int p.1), some (.int p.2), o, o2] [] := by
    unfold is_multiple_l1
    rw [sFor_of (iZip_tup rfl), zip_map]
  rw [key]
  have z := loop_inv (chk := fun _ => True ∧ True) (t := gTupD (gConsD (gD 4) (gConsD (gD 5) gNilD))) (b := is_multiple_b1) (fun p : Int × Int => D.tup [.int p.1, .int p.2])
    (fun dn sd μ => (∃ o o2, sd = [some (.tup (c.map D.int)), some (.tup (g.map D.int)), some (.int p.1), some (.int p.2), o, o2]) ∧ μ = [] ∧ ∀ q ∈ dn, p.1 * q.2 = q.1 * p.2) (fun r => Pr c g r) (c.zip g) [] _ _ ⟨⟨o, o2, rfl⟩, rfl, fun q hq => by simp at hq⟩ (.inr trivial) (by
      rintro dn q sd μ hq ⟨⟨o, o2, rfl⟩, rfl, hall⟩
      refine ⟨_, _, rfl, ?_⟩
      obtain ⟨s1, s2⟩ := zip_sm c g hc hg hl hp
      obtain ⟨s3, s4⟩ := zip_sm c g hc hg hl hq
      have m1 : ∀ μ, gMul μ (.int p.1) (.int q.2) = some (.int (p.1 * q.2)) := fun μ => mul_sm s1 s4
      have m2 : ∀ μ, gMul μ (.int q.1) (.int p.2) = some (.int (q.1 * p.2)) := fun μ => mul_sm s3 s2
      by_cases e : p.1 * q.2 = q.1 * p.2
      · refine .inl ⟨[some (.tup (c.map D.int)), some (.tup (g.map D.int)), some (.int p.1), some (.int p.2), some (.int q.1), some (.int q.2)], [], ?_, ⟨trivial, trivial⟩, ⟨_, _, rfl⟩, rfl, fun r hr => ?_⟩
        · unfold is_multiple_b1
          simp [m1, m2, e]
        · rcases List.mem_append.mp hr with h | h
          · exact hall r h
          · rw [List.mem_singleton.mp h]; exact e
      · refine .inr ⟨.bl false, [some (.tup (c.map D.int)), some (.tup (g.map D.int)), some (.int p.1), some (.int p.2), some (.int q.1), some (.int q.2)], [], ?_, rfl, fun hC => e (hC p hp q hq)⟩
        unfold is_multiple_b1
        simp [m1, m2, e])
  rcases z with ⟨sd2, μ2, h1, ⟨a, b, rfl⟩, rfl, h3⟩ | ⟨d, sd2, μ2, h1, h2⟩
  · exact .inl ⟨a, b, h1, h3⟩
  · exact .inr ⟨d, sd2, μ2, h1, h2⟩
theorem outer :
    (∃ a b d e, is_multiple_l2 [some (.tup (c.map D.int)), some (.tup (g.map D.int)), none, none, none, none] [] = some (.nx, [some (.tup (c.map D.int)), some (.tup (g.map D.int)), a, b, d, e], []) ∧ Cross (c.zip g)) ∨
    ∃ d sd μ, is_multiple_l2 [some (.tup (c.map D.int)), some (.tup (g.map D.int)), none, none, none, none] [] = some (.ret d, sd, μ) ∧ Pr c g (.ret d) := by
  have key : is_multiple_l2 [some (.tup (c.map D.int)), some (.tup (g.map D.int)), none, none, none, none] [] =
      loopF (fun _ => True ∧ True) (gTupD (gConsD (gD 2) (gConsD (gD 3) gNilD))) is_multiple_b2 ((c.zip g).map fun p => D.tup [.int p.1, .int p.2]) [some (.tup (c.map D.int)), some (.tup (g.map D.int)), none, none, none, none] [] := by
    unfold is_multiple_l2
    rw [sFor_of (iZip_tup rfl), zip_map]
  rw [key]
  have z := loop_inv (chk := fun _ => True ∧ True) (t := gTupD (gConsD (gD 2) (gConsD (gD 3) gNilD))) (b := is_multiple_b2) (fun p : Int × Int => D.tup [.int p.1, .int p.2])
    (fun dn sd μ => (∃ a b o o2, sd = [some (.tup (c.map D.int)), some (.tup (g.map D.int)), a, b, o, o2]) ∧ μ = [] ∧ ∀ p ∈ dn, ∀ q ∈ c.zip g, p.1 * q.2 = q.1 * p.2) (fun r => Pr c g r) (c.zip g) [] _ _ ⟨⟨none, none, none, none, rfl⟩, rfl, fun q hq => by simp at hq⟩ (.inr trivial) (by
      rintro dn p sd μ hp ⟨⟨a, b, o, o2, rfl⟩, rfl, hall⟩
      refine ⟨_, _, rfl, ?_⟩
      rcases inner c g hc hg hl p hp o o2 with ⟨o3, o4, h1, h2⟩ | ⟨d, sd, μ, h1, h2⟩
      · refine .inl ⟨_, _, h1, ⟨trivial, trivial⟩, ⟨_, _, _, _, rfl⟩, rfl, fun r hr => ?_⟩
        rcases List.mem_append.mp hr with h | h
        · exact hall r h
        · rw [List.mem_singleton.mp h]; exact h2
      · exact .inr ⟨d, sd, μ, h1, h2⟩)
  rcases z with ⟨sd2, μ2, h1, ⟨a, b, d, e, rfl⟩, rfl, h3⟩ | ⟨d, sd2, μ2, h1, h2⟩
  · exact .inl ⟨a, b, d, e, h1, h3⟩
  · exact .inr ⟨d, sd2, μ2, h1, h2⟩
theorem is_multiple_eq : m_is_multiple [.tup (c.map D.int), .tup (g.map D.int)] = some (.ok (.bl (isMul (c.zip g)))) := by
  unfold m_is_multiple b_is_multiple
  rcases outer c g hc hg hl with ⟨a, b, d, e, h1, h2⟩ | ⟨d, sd, μ, h1, h2, h3⟩
  · have hcomp : is_multiple_c1 [some (.tup (c.map D.int)), some (.tup (g.map D.int)), a, b, d, e] [] = some (.ok (.new ((c.zip g).map fun p => D.bl (okP p))), []) :=
      eLc_all (c.zip g) (fun p => D.tup [.int p.1, .int p.2]) (fun p => D.bl (okP p)) (iZip_tup rfl) (zip_map D.int D.int c g) (by simp; omega) ⟨trivial, trivial⟩ fun p hp => by
        obtain ⟨s1, s2⟩ := zip_sm c g hc hg hl hp
        have m1 : ∀ μ, gMul μ (.int p.1) (.int p.2) = some (.int (p.1 * p.2)) := fun μ => mul_sm s1 s2
        refine ⟨_, rfl, ?_, rfl⟩
        unfold okP
        by_cases q1 : p.1 * p.2 > 0
        · simp [wipeD, m1, q1]
        · by_cases q2 : p.1 = p.2
          · rw [q2] at m1 q1
            simp [wipeD, m1, q1, q2]
          · simp [wipeD, m1, q1, q2]
    rw [map2 okP D.bl] at hcomp
    have hr : isMul (c.zip g) = ((c.zip g).map okP).all id := by
      unfold isMul
      rw [if_pos h2]
      simp [List.all_map, Function.comp_def]
    rw [hr]
    generalize (c.zip g).map okP = L at *
    simp [h1, hcomp, all_new]
  · have hr : isMul (c.zip g) = false := by
      unfold isMul
      rw [if_neg h3]
    rw [hr]
    cases h2
    simp [h1]
end
end LK

namespace LK
open PySem PySem.Spec PyProof.Rows L2 DL
/-! ### _law_multiple -/
def nz (g : List Int) : List Nat := (List.range g.length).filter fun k => !decide (g.getD k 0 = 0)
def offs (c g : List Int) (a : Nat) : List Nat := (List.range g.length).filter fun k => !decide (c.getD k 0 * g.getD a 0 = g.getD k 0 * c.getD a 0)
def lawMul (c g : List Int) : Bool := match nz g with
  | [] => decide ((c.filter fun x => !decide (x = 0)).length = 0)
  | a :: _ => if c.getD a 0 * g.getD a 0 ≤ 0 then false else decide ((offs c g a).length = 0)
theorem natE (l : List Nat) : l.map (fun k : Nat => D.int k) = (l.map fun k : Nat => (k : Int)).map D.int := by rw [List.map_map]; rfl
section
variable (c g : List Int) (hc : Row c) (hg : Row g) (hl : c.length ≤ 100) (he : c.length = g.length)
include hc hg hl he
theorem law_multiple_eq : m__law_multiple [.tup (c.map D.int), .tup (g.map D.int)] = some (.ok (.bl (lawMul c g))) := by
  have ixc : ∀ μ (k : Nat), k < c.length → gIx μ (.tup (c.map D.int)) (.int k) = some (.int (c.getD k 0)) := fun μ k hk => ix_int (.inl rfl) (by omega) (by omega)
  have ixg : ∀ μ (k : Nat), k < c.length → gIx μ (.tup (g.map D.int)) (.int k) = some (.int (g.getD k 0)) := fun μ k hk => ix_int (.inl rfl) (by omega) (by omega)
  have h3 : _law_multiple_c3 [some (.tup (c.map D.int)), some (.tup (g.map D.int)), none, none, none, none] [] = some (.ok (.new ((nz g).map fun k : Nat => D.int k)), []) :=
    eLc_eq (List.range g.length) (fun k : Nat => D.int k) (fun k => !decide (g.getD k 0 = 0)) (fun k : Nat => D.int k) (iR1_of (n := g.length) (by simp) (by omega)) rfl (by simp; omega) trivial fun k hk => by
      have hk : k < c.length := by rw [he]; simpa using hk
      refine ⟨_, rfl, ?_, fun _ => ⟨rfl, rfl⟩⟩
      have := ixg [] k hk
      generalize g.getD k 0 = x at *
      simp [wipeD, this]
  rw [natE] at h3
  have hnz : ∀ k ∈ nz g, k < c.length := fun k hk => by
    have := List.mem_filter.mp hk
    rw [he]; simpa using this.1
  cases hz : nz g with
  | nil =>
    rw [hz] at h3
    have e : lawMul c g = decide ((c.filter fun x => !decide (x = 0)).length = 0) := by unfold lawMul; rw [hz]
    have h2 : _law_multiple_c2 [some (.tup (c.map D.int)), some (.tup (g.map D.int)), some (.ref 0), none, none, none] [.lst []] = some (.ok (.new ((c.filter fun x => !decide (x = 0)).map D.int)), [.lst []]) :=
      eLc_eq c D.int (fun x => !decide (x = 0)) D.int (ds := c.map D.int) (chk := fun _ => True) (by simp) rfl (by omega) trivial fun x hx => by
        refine ⟨_, rfl, ?_, fun _ => ⟨rfl, rfl⟩⟩
        simp [wipeD]
    rw [e]
    generalize (c.filter fun x => !decide (x = 0)) = L at *
    have hlen : gLen [.lst []] [.ref 0] = some (.int 0) := rfl
    unfold m__law_multiple b__law_multiple
    simp only [List.map_nil] at h3
    simp [h3, hlen, h2]
  | cons a r =>
    rw [hz] at h3 hnz
    have ha := hnz a List.mem_cons_self
    have e : lawMul c g = if c.getD a 0 * g.getD a 0 ≤ 0 then false else decide ((offs c g a).length = 0) := by unfold lawMul; rw [hz]
    rw [e]
    have hlen : gLen [.lst (((a :: r).map fun k : Nat => (k : Int)).map D.int)] [.ref 0] = some (.int (r.length + 1)) := by
      rw [len_any rfl]
      simp
    have hix : gIx [.lst (((a :: r).map fun k : Nat => (k : Int)).map D.int)] (.ref 0) (.int 0) = some (.int a) := ix_int (l := (a :: r).map fun k : Nat => (k : Int)) (.inr rfl) (by decide) (by simp)
    generalize (((a :: r).map fun k : Nat => (k : Int)).map D.int) = A at *
    have m1 : ∀ μ, gMul μ (.int (c.getD a 0)) (.int (g.getD a 0)) = some (.int (c.getD a 0 * g.getD a 0)) := fun μ => mul_sm (hc.getD a) (hg.getD a)
    have i1 := ixc [.lst A] a ha
    have i2 := ixg [.lst A] a ha
    have h1 : _law_multiple_c1 [some (.tup (c.map D.int)), some (.tup (g.map D.int)), some (.ref 0), some (.int a), none, none] [.lst A] = some (.ok (.new ((offs c g a).map fun k : Nat => D.int k)), [.lst A]) :=
      eLc_eq (List.range g.length) (fun k : Nat => D.int k) (fun k => !decide (c.getD k 0 * g.getD a 0 = g.getD k 0 * c.getD a 0)) (fun k : Nat => D.int k) (iR1_of (n := g.length) (by simp) (by omega)) rfl (by simp; omega) trivial fun k hk => by
        have hk : k < c.length := by rw [he]; simpa using hk
        refine ⟨_, rfl, ?_, fun _ => ⟨rfl, rfl⟩⟩
        have j1 := ixc [.lst A] k hk
        have j2 := ixg [.lst A] k hk
        have n1 : ∀ μ, gMul μ (.int (c.getD k 0)) (.int (g.getD a 0)) = some (.int (c.getD k 0 * g.getD a 0)) := fun μ => mul_sm (hc.getD k) (hg.getD a)
        have n2 : ∀ μ, gMul μ (.int (g.getD k 0)) (.int (c.getD a 0)) = some (.int (g.getD k 0 * c.getD a 0)) := fun μ => mul_sm (hg.getD k) (hc.getD a)
        generalize g.getD k 0 = x at *
        generalize c.getD k 0 = y at *
        generalize g.getD a 0 = x2 at *
        generalize c.getD a 0 = y2 at *
        simp [wipeD, i1, i2, j1, j2, n1, n2]
    rw [natE] at h1
    have hlo : (offs c g a).length = ((offs c g a).map fun k : Nat => (k : Int)).length := by simp
    rw [hlo]
    generalize (offs c g a).map (fun k : Nat => (k : Int)) = L at *
    generalize g.getD a 0 = x2 at *
    generalize c.getD a 0 = y2 at *
    unfold m__law_multiple b__law_multiple
    by_cases q : y2 * x2 ≤ 0
    · simp [h3, hlen, hix, i1, i2, m1, q, show ¬ ((r.length : Int) + 1 = 0) by omega]
    · simp [h3, hlen, hix, i1, i2, m1, q, show ¬ ((r.length : Int) + 1 = 0) by omega, h1]
end
/-! ### both say the same -/
theorem lawMul_eq (c g : List Int) (he : c.length = g.length) : lawMul c g = isMul (c.zip g) := by
  have hz := zip_range c g he
  have cross : Cross (c.zip g) ↔ ∀ i < c.length, ∀ j < c.length, c.getD i 0 * g.getD j 0 = c.getD j 0 * g.getD i 0 := by
    unfold Cross
    rw [hz]
    constructor
    · intro h i hi j hj
      exact h _ (List.mem_map.mpr ⟨i, List.mem_range.mpr hi, rfl⟩) _ (List.mem_map.mpr ⟨j, List.mem_range.mpr hj, rfl⟩)
    · intro h p hp q hq
      obtain ⟨i, hi, rfl⟩ := List.mem_map.mp hp
      obtain ⟨j, hj, rfl⟩ := List.mem_map.mp hq
      exact h i (List.mem_range.mp hi) j (List.mem_range.mp hj)
  have oks : (c.zip g).all okP = true ↔ ∀ i < c.length, c.getD i 0 * g.getD i 0 > 0 ∨ (c.getD i 0 = g.getD i 0 ∧ g.getD i 0 = 0) := by
    rw [hz]
    simp only [List.all_map, List.all_eq_true, List.mem_range, Function.comp_def, okP, Bool.or_eq_true, Bool.and_eq_true, decide_eq_true_eq]
  have fin : isMul (c.zip g) = true ↔ (∀ i < c.length, ∀ j < c.length, c.getD i 0 * g.getD j 0 = c.getD j 0 * g.getD i 0) ∧ ∀ i < c.length, c.getD i 0 * g.getD i 0 > 0 ∨ (c.getD i 0 = g.getD i 0 ∧ g.getD i 0 = 0) := by
    unfold isMul
    by_cases q : Cross (c.zip g)
    · rw [if_pos q, oks, ← cross]
      exact ⟨fun h => ⟨q, h⟩, fun h => h.2⟩
    · rw [if_neg q, ← cross]
      exact ⟨fun h => (by cases h), fun h => absurd h.1 q⟩
  have mem_nz : ∀ k, k ∈ nz g ↔ k < c.length ∧ g.getD k 0 ≠ 0 := fun k => by
    unfold nz
    rw [List.mem_filter, List.mem_range, he]
    simp
  rw [Bool.eq_iff_iff, fin]
  unfold lawMul
  cases hn : nz g with
  | nil =>
    have g0 : ∀ k < c.length, g.getD k 0 = 0 := fun k hk => by
      by_cases q : g.getD k 0 = 0
      · exact q
      · have := (mem_nz k).mpr ⟨hk, q⟩
        rw [hn] at this
        simp at this
    simp only [decide_eq_true_eq, List.length_eq_zero_iff, List.filter_eq_nil_iff]
    constructor
    · intro h
      have c0 : ∀ k < c.length, c.getD k 0 = 0 := fun k hk => by
        have e : c.getD k 0 = c[k] := by simp [List.getD, hk]
        have := h _ (List.getElem_mem hk)
        rw [e]
        simpa using this
      exact ⟨fun i hi j hj => by rw [c0 i hi, c0 j hj]; simp, fun i hi => .inr ⟨by rw [c0 i hi, g0 i hi], g0 i hi⟩⟩
    · rintro ⟨_, h⟩ x hx
      obtain ⟨k, hk, rfl⟩ := List.mem_iff_getElem.mp hx
      have e : c.getD k 0 = c[k] := by simp [List.getD, hk]
      rcases h k hk with q | q
      · rw [g0 k hk] at q
        simp at q
      · rw [← e, q.1, q.2]
        simp
  | cons a r =>
    obtain ⟨ha, hga⟩ := (mem_nz a).mp (by rw [hn]; exact List.mem_cons_self)
    have off : (offs c g a).length = 0 ↔ ∀ k < c.length, c.getD k 0 * g.getD a 0 = g.getD k 0 * c.getD a 0 := by
      unfold offs
      rw [List.length_eq_zero_iff, List.filter_eq_nil_iff, ← he]
      simp
    simp only []
    by_cases q : c.getD a 0 * g.getD a 0 ≤ 0
    · rw [if_pos q]
      constructor
      · intro h; cases h
      · rintro ⟨_, h⟩
        rcases h a ha with h | h
        · omega
        · exact absurd h.2 hga
    · rw [if_neg q, decide_eq_true_eq, off]
      constructor
      · intro h
        refine ⟨fun i hi j hj => ?_, fun i hi => ?_⟩
        · have h1 := h i hi
          have h2 := h j hj
          generalize c.getD i 0 = ci at *
          generalize g.getD i 0 = gi at *
          generalize c.getD j 0 = cj at *
          generalize g.getD j 0 = gj at *
          generalize c.getD a 0 = ca at *
          generalize g.getD a 0 = ga at *
          have e : ga * (ci * gj) = ga * (cj * gi) := by
            calc ga * (ci * gj) = (ci * ga) * gj := by rw [← Int.mul_assoc, Int.mul_comm ga ci]
              _ = (gi * ca) * gj := by rw [h1]
              _ = gi * (gj * ca) := by rw [Int.mul_assoc, Int.mul_comm ca gj]
              _ = gi * (cj * ga) := by rw [h2]
              _ = ga * (cj * gi) := by rw [← Int.mul_assoc, Int.mul_comm (gi * cj) ga, Int.mul_comm gi cj]
          exact Int.eq_of_mul_eq_mul_left hga e
        · have h1 := h i hi
          generalize c.getD i 0 = ci at *
          generalize g.getD i 0 = gi at *
          generalize c.getD a 0 = ca at *
          generalize g.getD a 0 = ga at *
          by_cases z : gi = 0
          · refine .inr ⟨?_, z⟩
            rw [z] at h1 ⊢
            rw [Int.zero_mul] at h1
            rcases Int.mul_eq_zero.mp h1 with w | w
            · exact w
            · exact absurd w hga
          · refine .inl ?_
            have e : (ga * ga) * (ci * gi) = (gi * gi) * (ca * ga) := by
              calc (ga * ga) * (ci * gi) = (ci * ga) * (ga * gi) := by
                    rw [Int.mul_assoc ga ga, ← Int.mul_assoc ga ci gi, Int.mul_comm ga ci, Int.mul_assoc ci ga gi, ← Int.mul_assoc ga ci, Int.mul_comm ga ci]
                _ = (gi * ca) * (ga * gi) := by rw [h1]
                _ = (gi * gi) * (ca * ga) := by
                    rw [Int.mul_comm ga gi, Int.mul_assoc gi ca, ← Int.mul_assoc ca gi ga, Int.mul_comm ca gi, Int.mul_assoc gi ca ga, ← Int.mul_assoc gi gi]
            have p1 : 0 < ga * ga := by
              rcases Int.lt_or_gt_of_ne hga with w | w
              · exact Int.mul_pos_of_neg_of_neg w w
              · exact Int.mul_pos w w
            have p2 : 0 < gi * gi := by
              rcases Int.lt_or_gt_of_ne z with w | w
              · exact Int.mul_pos_of_neg_of_neg w w
              · exact Int.mul_pos w w
            have p3 : 0 < (gi * gi) * (ca * ga) := Int.mul_pos p2 (by omega)
            rw [← e] at p3
            exact Int.pos_of_mul_pos_right p3 p1
      · rintro ⟨h, _⟩ k hk
        rw [h k hk a ha, Int.mul_comm]
end LK

namespace LK
open PySem PySem.Spec PyProof.Rows L2 DL
theorem argD_row (μ : Mem) (l : List Int) : argD μ (.tup (l.map D.int)) = some (.tup (l.map D.int)) := argD_tup (okI l)
theorem argD_prs (μ : Mem) (l : List (Int × Int)) : argD μ (.tup (l.map P2)) = some (.tup (l.map P2)) := argD_tup (okAL_map (fun _ => rfl) l)
/-! ### word in filling -/
def pd2 (p : Int × Int) : PyData := .tuple [.int p.1, .int p.2]
theorem toP2 (p : Int × Int) : toP (P2 p) = some (pd2 p) := rfl
theorem toPs2 (l : List (Int × Int)) : toPs (l.map P2) = some (l.map pd2) := by
  induction l with
  | nil => rfl
  | cons p l ih =>
    show ((toP (P2 p)).bind fun q => (toPs (l.map P2)).map fun ps => q :: ps) = _
    rw [ih]
    rfl
theorem lay2 (p : Int × Int) : (pd2 p).canLay0 = true := by simp [pd2, PyData.canLay0, PyData.canLayAll0]
theorem dep2 (p : Int × Int) : (pd2 p).depth ≤ 2 := by simp [pd2, PyData.depth, PyData.depthAll]
theorem sh2 (p : Int × Int) : SeqAt.shaped (pd2 p) = true := by
  unfold SeqAt.shaped
  have := dep2 p
  simp [lay2]
  omega
theorem shl2 (l : List (Int × Int)) : SeqAt.shaped (.tuple (l.map pd2)) = true := by
  have h1 : ∀ l : List (Int × Int), PyData.canLayAll0 (l.map pd2) = true ∧ PyData.depthAll (l.map pd2) ≤ 2 := fun l => by
    induction l with
    | nil => simp [PyData.canLayAll0, PyData.depthAll]
    | cons p l ih =>
      have := dep2 p
      simp [PyData.canLayAll0, PyData.depthAll, lay2, ih]
      omega
  have := h1 l
  unfold SeqAt.shaped
  simp [PyData.canLay0, PyData.depth, this.1]
  omega
theorem eqv2 (p q : Int × Int) : PyData.eqv (pd2 p) (pd2 q) = decide (p = q) := by
  obtain ⟨a, b⟩ := p
  obtain ⟨c, d⟩ := q
  simp [pd2, PyData.eqv, PyData.eqvAll]
  rw [Bool.eq_iff_iff]
  simp
theorem in2 (μ : Mem) (p : Int × Int) (l : List (Int × Int)) : gInD false μ (P2 p) (.tup (l.map P2)) = some (.bl (l.any fun q => decide (q = p))) := by
  unfold gInD
  have e1 : toPm μ (P2 p) = some (pd2 p) := rfl
  have e2 : toPm μ (.tup (l.map P2)) = some (.tuple (l.map pd2)) := by
    show (toPs (l.map P2)).map PyData.tuple = _
    rw [toPs2]
    rfl
  rw [e1, e2]
  simp only [Option.bind_some, sh2, shl2, Bool.and_self, if_true]
  rw [List.any_map]
  simp [Function.comp_def, eqv2]
/-! ### sums -/
def dot (c b : List Int) : Int := ((c.zip b).map fun p => p.1 * p.2).sum
theorem dot_cons (x y : Int) (c b : List Int) : dot (x :: c) (y :: b) = x * y + dot c b := by simp [dot]
theorem dot_set : ∀ (c b : List Int) (i : Nat) (x : Int), i < c.length → c.length = b.length → dot (c.set i x) b = dot c b + (x - c.getD i 0) * b.getD i 0
  | [], _, _, _, h, _ => by simp at h
  | y :: c, [], _, _, _, h => by simp at h
  | y :: c, z :: b, 0, x, _, _ => by
    simp [dot_cons, Int.sub_mul]
    omega
  | y :: c, z :: b, i + 1, x, h, h2 => by
    have ih := dot_set c b i x (by simpa using h) (by simpa using h2)
    simp only [List.set_cons_succ, dot_cons, ih, List.getD_cons_succ]
    omega
theorem dot_zero : ∀ (n : Nat) (b : List Int), dot (List.replicate n 0) b = 0
  | 0, b => by simp [dot]
  | n + 1, [] => by simp [dot]
  | n + 1, y :: b => by rw [List.replicate_succ, dot_cons, dot_zero n b]; simp
theorem dot_wst (b : List Int) : ∀ (w : List (Int × Int)) (l : List Int), l.length = b.length → 0 < l.length → (∀ p ∈ w, 1 ≤ p.1 ∧ p.1 < l.length ∧ l.getD p.1.toNat 0 = 0) → w.Pairwise (fun p q => p.1 ≠ q.1) →
    dot (w.foldl wst l) b = dot l b + (w.map fun p => (1 - p.2) * b.getD 0 0 + (2 * p.2 - 1) * b.getD p.1.toNat 0).sum
  | [], l, _, _, _, _ => by simp
  | p :: w, l, hl, h0, hp, hd => by
    obtain ⟨h1, h2, h3⟩ := hp p List.mem_cons_self
    have hd1 : ∀ q ∈ w, p.1 ≠ q.1 := fun q hq => List.rel_of_pairwise_cons hd hq
    have ih := dot_wst b w (wst l p) (by rw [wst_length]; exact hl) (by rw [wst_length]; exact h0) (fun q hq => by
      obtain ⟨a, b, c⟩ := hp q (List.mem_cons_of_mem _ hq)
      refine ⟨a, by rw [wst_length]; exact b, ?_⟩
      have hne : p.1.toNat ≠ q.1.toNat := fun e => hd1 q hq (by omega)
      unfold wst
      rw [List.getD_eq_getElem?_getD, List.getElem?_set_ne hne, List.getElem?_set_ne (by omega), ← List.getD_eq_getElem?_getD]
      exact c) (List.Pairwise.of_cons hd)
    rw [List.foldl_cons, ih]
    have e : dot (wst l p) b = dot l b + ((1 - p.2) * b.getD 0 0 + (2 * p.2 - 1) * b.getD p.1.toNat 0) := by
      unfold wst
      rw [dot_set _ _ _ _ (by simp; omega) (by simpa using hl), dot_set _ _ _ _ h0 hl]
      have g : (l.set 0 (l.getD 0 0 + (1 - p.2))).getD p.1.toNat 0 = 0 := by
        rw [List.getD_eq_getElem?_getD, List.getElem?_set_ne (by omega), ← List.getD_eq_getElem?_getD]
        exact h3
      rw [g, show l.getD 0 0 + (1 - p.2) - l.getD 0 0 = 1 - p.2 by omega]
      simp only [Int.sub_zero]
      omega
    rw [e, List.map_cons, List.sum_cons]
    omega
/-! ### the law's wish and filling -/
def wishL (ds : List Int) (n : Nat) : List (Int × Int) := ((List.range n).filter fun k => decide (ds.getD k 0 % 5 > 0)).map fun k : Nat => ((k : Int) + 1, ds.getD k 0 % 2)
def fillL (ds : List Int) (n : Nat) : List (Int × Int) := (List.range n).map fun k : Nat => ((k : Int) + 1, ds.getD k 0 / 2 % 2)
def blendL (ds : List Int) (n : Nat) : List Int := 1 :: (fillL ds n).map (·.2)
theorem wish_ok (ds : List Int) (n : Nat) : Wish n (wishL ds n) := fun p hp => by
  unfold wishL at hp
  obtain ⟨k, hk, rfl⟩ := List.mem_map.mp hp
  have := (List.mem_filter.mp hk).1
  have : k < n := by simpa using this
  dsimp only
  omega
theorem blend_get (ds : List Int) (n k : Nat) (hk : k < n) : (blendL ds n).getD (k + 1) 0 = ds.getD k 0 / 2 % 2 := by
  unfold blendL fillL
  rw [List.getD_cons_succ]
  simp [List.getD, hk]
def metL (ds : List Int) (n : Nat) : List (Int × Int) := (wishL ds n).filter fun p => (fillL ds n).any fun q => decide (q = p)
theorem met_eq (ds : List Int) (n : Nat) : dot (wishC n (wishL ds n)) (blendL ds n) = (metL ds n).length - 1 := by
  have hb : (blendL ds n).length = n + 1 := by simp [blendL, fillL]
  unfold wishC
  rw [dot_wst (blendL ds n) (wishL ds n) _ (by simp [hb]) (by simp) (fun p hp => by
    obtain ⟨a, b, _⟩ := wish_ok ds n p hp
    refine ⟨a, by simp; omega, ?_⟩
    obtain ⟨k, hk⟩ : ∃ k : Nat, p.1.toNat = k + 1 := ⟨p.1.toNat - 1, by omega⟩
    rw [hk, List.getD_cons_succ]
    by_cases q : k < n
    · simp [List.getD, q]
    · simp [List.getD, List.getElem?_eq_none, show n ≤ k by omega]) (by
    unfold wishL
    rw [List.pairwise_map]
    have : (List.range n).Pairwise (fun a b : Nat => ((a : Int) + 1 ≠ (b : Int) + 1)) := (List.nodup_range (n := n)).imp fun {a b} h e => h (by omega)
    exact this.sublist (List.filter_sublist))]
  have h0 : dot ((-1) :: List.replicate n 0) (blendL ds n) = -1 := by
    unfold blendL
    rw [dot_cons, dot_zero]
    rfl
  rw [h0]
  have hsum : ∀ w : List (Int × Int), (∀ p ∈ w, p ∈ wishL ds n) → (w.map fun p => (1 - p.2) * (blendL ds n).getD 0 0 + (2 * p.2 - 1) * (blendL ds n).getD p.1.toNat 0).sum = ((w.filter fun p => (fillL ds n).any fun q => decide (q = p)).length : Int) := by
    intro w
    induction w with
    | nil => intro _; rfl
    | cons p w ih =>
      intro hw
      rw [List.map_cons, List.sum_cons, ih fun q hq => hw q (List.mem_cons_of_mem _ hq)]
      have hp := hw p List.mem_cons_self
      unfold wishL at hp
      obtain ⟨k, hk, rfl⟩ := List.mem_map.mp hp
      have hkn : k < n := by simpa using (List.mem_filter.mp hk).1
      have e1 : (blendL ds n).getD 0 0 = 1 := rfl
      have e2 : (blendL ds n).getD ((k : Int) + 1).toNat 0 = ds.getD k 0 / 2 % 2 := by
        rw [show ((k : Int) + 1).toNat = k + 1 by omega, blend_get ds n k hkn]
      have e3 : ((fillL ds n).any fun q => decide (q = ((k : Int) + 1, ds.getD k 0 % 2))) = decide (ds.getD k 0 / 2 % 2 = ds.getD k 0 % 2) := by
        rw [Bool.eq_iff_iff]
        unfold fillL
        simp only [List.any_map, List.any_eq_true, List.mem_range, Function.comp_def, decide_eq_true_eq, Prod.mk.injEq]
        constructor
        · rintro ⟨j, hj, h1, h2⟩
          have : j = k := by omega
          subst this
          exact h2
        · intro h
          exact ⟨k, hkn, rfl, h⟩
      rw [List.filter_cons, e1, e2, e3]
      generalize ds.getD k 0 = d
      have v0 : d % 2 = 0 ∨ d % 2 = 1 := by omega
      have f0 : d / 2 % 2 = 0 ∨ d / 2 % 2 = 1 := by omega
      rcases v0 with v | v <;> rcases f0 with f | f <;> simp [v, f] <;> omega
  rw [hsum (wishL ds n) fun _ h => h]
  unfold metL
  omega
/-! ### rows -/
theorem row_of {l : List Int} {m : Nat} (h : ∀ x ∈ l, x.natAbs < 2 ^ m) (hm : m ≤ 200 := by decide) : Row l := fun x hx => Nat.lt_of_lt_of_le (h x hx) (Nat.pow_le_pow_right (by decide) hm)
theorem wst_row (p : Int × Int) (hp : p.2 = 0 ∨ p.2 = 1) (m : Nat) (hm : 1 ≤ m) (l : List Int) (h : ∀ x ∈ l, x.natAbs ≤ m) : ∀ x ∈ wst l p, x.natAbs ≤ m + 1 := fun x hx => by
  have h0 : (l.getD 0 0).natAbs ≤ m := by
    cases l with
    | nil => simp
    | cons y l => simpa using h y List.mem_cons_self
  unfold wst at hx
  rcases List.mem_or_eq_of_mem_set hx with q | q
  · rcases List.mem_or_eq_of_mem_set q with q | q
    · have := h x q; omega
    · omega
  · omega
theorem fold_row : ∀ (w : List (Int × Int)) (l : List Int) (m : Nat), 1 ≤ m → (∀ p ∈ w, p.2 = 0 ∨ p.2 = 1) → (∀ x ∈ l, x.natAbs ≤ m) → ∀ x ∈ w.foldl wst l, x.natAbs ≤ m + w.length
  | [], l, m, _, _, h => fun x hx => by simpa using h x hx
  | p :: w, l, m, hm, hw, h => fun x hx => by
    have := fold_row w (wst l p) (m + 1) (by omega) (fun q hq => hw q (List.mem_cons_of_mem _ hq)) (wst_row p (hw p List.mem_cons_self) m hm l h) x hx
    simp only [List.length_cons]
    omega
theorem wishL_len (ds : List Int) (n : Nat) : (wishL ds n).length ≤ n := by
  unfold wishL
  rw [List.length_map]
  exact Nat.le_trans (List.length_filter_le _ _) (by simp)
theorem wishC_len (ds : List Int) (n : Nat) : (wishC n (wishL ds n)).length = n + 1 := by unfold wishC; rw [fold_length]; simp
theorem wishC_row (ds : List Int) (n : Nat) (hn : n ≤ 40) : Row (wishC n (wishL ds n)) := by
  refine row_of (m := 10) fun x hx => ?_
  have := fold_row (wishL ds n) ((-1) :: List.replicate n 0) 1 (by decide) (fun p hp => (wish_ok ds n p hp).2.2) (fun y hy => by
    rcases List.mem_cons.mp hy with e | e
    · rw [e]; decide
    · rw [List.eq_of_mem_replicate e]; decide) x hx
  have := wishL_len ds n
  omega
theorem blendL_len (ds : List Int) (n : Nat) : (blendL ds n).length = n + 1 := by simp [blendL, fillL]
theorem blendL_row (ds : List Int) (n : Nat) : Row (blendL ds n) := by
  refine row_of (m := 10) fun x hx => ?_
  unfold blendL fillL at hx
  rcases List.mem_cons.mp hx with e | e
  · rw [e]; decide
  · simp only [List.map_map, List.mem_map, Function.comp_def] at e
    obtain ⟨k, _, rfl⟩ := e
    omega
theorem is_blendL (ds : List Int) (n : Nat) (hn : n ≤ 40) : m_is_blend [.tup ((blendL ds n).map D.int)] = some (.ok (.bl true)) := by
  unfold blendL
  rw [is_blend_eq 1 _ (by simp [fillL]; omega)]
  have : ((fillL ds n).map (·.2)).all (fun y => decide (0 ≤ y) && decide (y ≤ 1)) = true := by
    unfold fillL
    simp only [List.map_map, List.all_map, List.all_eq_true, Function.comp_def, List.mem_range, Bool.and_eq_true, decide_eq_true_eq]
    intro k _
    omega
  rw [this]
  rfl

section
variable (ds : List Int) (n : Nat) (hn : n ≤ 40) (hd : ds.length = 44)
include hn hd
theorem ixd (μ : Mem) (k : Nat) (hk : k < 44) : gIx (.lst (ds.map D.int) :: μ) (.ref 0) (.int k) = some (.int (ds.getD k 0)) := ix_int (.inr rfl) (by omega) (by omega)

theorem c11 (s0 s1 s3 s4 s6 s7 s8 s9 s10 s11 s12 s13 s14 s15 s16 s17 s18 s19 s20 s21 s22 s23 : Option D) : law_c11 [s0, s1, some (.int n), s3, s4, some (.ref 0), s6, s7, s8, s9, s10, s11, s12, s13, s14, s15, s16, s17, s18, s19, s20, s21, s22, s23] [.lst (ds.map D.int)] = some (.ok (.new ((wishL ds n).map P2)), [.lst (ds.map D.int)]) := by
  have e : (wishL ds n).map P2 = ((List.range n).filter fun k => decide (ds.getD k 0 % 5 > 0)).map fun k : Nat => P2 ((k : Int) + 1, ds.getD k 0 % 2) := by unfold wishL; rw [List.map_map]; rfl
  rw [e]
  refine eLc_eq (List.range n) (fun k : Nat => D.int k) (fun k => decide (ds.getD k 0 % 5 > 0)) (fun k : Nat => P2 ((k : Int) + 1, ds.getD k 0 % 2)) (iR1_of rfl (by omega)) rfl (by simp; omega) trivial fun k hk => ?_
  have hk : k < n := by simpa using hk
  have h1 := ixd ds n hn hd [] k (by omega)
  have h2 : ∀ μ, gModI μ (.int (ds.getD k 0)) (.int 5) = some (.int (ds.getD k 0 % 5)) := fun μ => mod_int (by decide)
  have h3 : ∀ μ, gModI μ (.int (ds.getD k 0)) (.int 2) = some (.int (ds.getD k 0 % 2)) := fun μ => mod_int (by decide)
  generalize ds.getD k 0 = x at *
  exact ⟨_, rfl, by simp [wipeD, h1, h2], fun _ => ⟨by simp [wipeD, h1, h3], rfl⟩⟩

theorem c10 (s0 s1 s3 s4 s6 s7 s8 s9 s10 s11 s12 s13 s14 s15 s16 s17 s18 s19 s20 s21 s22 s23 : Option D) : law_c10 [s0, s1, some (.int n), s3, s4, some (.ref 0), s6, s7, s8, s9, s10, s11, s12, s13, s14, s15, s16, s17, s18, s19, s20, s21, s22, s23] [.lst (ds.map D.int)] = some (.ok (.new ((fillL ds n).map P2)), [.lst (ds.map D.int)]) := by
  have e : (fillL ds n).map P2 = (List.range n).map fun k : Nat => P2 ((k : Int) + 1, ds.getD k 0 / 2 % 2) := by unfold fillL; rw [List.map_map]; rfl
  rw [e]
  refine eLc_all (List.range n) (fun k : Nat => D.int k) (fun k : Nat => P2 ((k : Int) + 1, ds.getD k 0 / 2 % 2)) (iR1_of rfl (by omega)) rfl (by simp; omega) trivial fun k hk => ?_
  have hk : k < n := by simpa using hk
  have h1 := ixd ds n hn hd [] k (by omega)
  have h2 : ∀ μ, gDivI μ (.int (ds.getD k 0)) (.int 2) = some (.int (ds.getD k 0 / 2)) := fun μ => div_int ⟨by decide, by decide⟩
  have h3 : ∀ μ, gModI μ (.int (ds.getD k 0 / 2)) (.int 2) = some (.int (ds.getD k 0 / 2 % 2)) := fun μ => mod_int (by decide)
  generalize ds.getD k 0 = x at *
  exact ⟨_, rfl, by simp [wipeD, h1, h2, h3], rfl⟩
def rowL (ds : List Int) (n : Nat) : List Int := (List.range n).map fun k => ds.getD k 0 / 4 % 4
theorem c8 (s0 s1 s3 s4 s6 s7 s8 s9 s10 s11 s12 s13 s14 s15 s16 s17 s18 s19 s20 s21 s22 s23 : Option D) : law_c8 [s0, s1, some (.int n), s3, s4, some (.ref 0), s6, s7, s8, s9, s10, s11, s12, s13, s14, s15, s16, s17, s18, s19, s20, s21, s22, s23] [.lst (ds.map D.int)] = some (.ok (.new ((rowL ds n).map D.int)), [.lst (ds.map D.int)]) := by
  have e : (rowL ds n).map D.int = (List.range n).map fun k : Nat => D.int (ds.getD k 0 / 4 % 4) := by unfold rowL; rw [List.map_map]; rfl
  rw [e]
  refine eLc_all (List.range n) (fun k : Nat => D.int k) (fun k : Nat => D.int (ds.getD k 0 / 4 % 4)) (iR1_of rfl (by omega)) rfl (by simp; omega) trivial fun k hk => ?_
  have hk : k < n := by simpa using hk
  have h1 := ixd ds n hn hd [] k (by omega)
  have h2 : ∀ μ, gDivI μ (.int (ds.getD k 0)) (.int 4) = some (.int (ds.getD k 0 / 4)) := fun μ => div_int ⟨by decide, by decide⟩
  have h3 : ∀ μ, gModI μ (.int (ds.getD k 0 / 4)) (.int 4) = some (.int (ds.getD k 0 / 4 % 4)) := fun μ => mod_int (by decide)
  generalize ds.getD k 0 = x at *
  exact ⟨_, rfl, by simp [wipeD, h1, h2, h3], rfl⟩

theorem c9 (s0 s1 s2 s3 s4 s5 s7 s8 s9 s11 s12 s13 s14 s15 s16 s17 s18 s19 s20 s21 s22 s23 : Option D) (μ : Mem) : law_c9 [s0, s1, s2, s3, s4, s5, some (.tup ((wishL ds n).map P2)), s7, s8, s9, some (.tup ((fillL ds n).map P2)), s11, s12, s13, s14, s15, s16, s17, s18, s19, s20, s21, s22, s23] μ = some (.ok (.new ((metL ds n).map P2)), μ) := by
  have hl := wishL_len ds n
  refine eLc_eq (wishL ds n) P2 (fun p => (fillL ds n).any fun q => decide (q = p)) P2 (ds := (wishL ds n).map P2) (chk := fun _ => True) (by simp) rfl (by omega) trivial fun p hp => ?_
  exact ⟨_, rfl, by simp [wipeD, in2], fun _ => ⟨rfl, rfl⟩⟩
end

section
variable (one : List Int) (h1 : ∀ x ∈ one, x.natAbs < 2 ^ 120) (hl : one.length ≤ 41)
include h1 hl

theorem c1 (s0 s1 s2 s4 s5 s6 s7 s8 s9 s10 s11 s12 s13 s14 s15 s16 s17 s18 s19 s20 s21 s22 s23 : Option D) (μ : Mem) : law_c1 [s0, s1, s2, some (.tup (one.map D.int)), s4, s5, s6, s7, s8, s9, s10, s11, s12, s13, s14, s15, s16, s17, s18, s19, s20, s21, s22, s23] μ = some (.ok (.new ((one.map (fun _ => 0)).map D.int)), μ) := by
  rw [List.map_map]
  exact eLc_all one D.int (fun x => D.int ((fun _ => 0) x)) (ds := one.map D.int) (chk := fun _ => True) (by simp) rfl (by omega) trivial fun x hx => ⟨_, rfl, by simp [wipeD], rfl⟩

theorem c2 (s0 s1 s2 s4 s5 s6 s7 s8 s9 s10 s11 s12 s13 s14 s15 s16 s17 s18 s19 s20 s21 s22 s23 : Option D) (μ : Mem) : law_c2 [s0, s1, s2, some (.tup (one.map D.int)), s4, s5, s6, s7, s8, s9, s10, s11, s12, s13, s14, s15, s16, s17, s18, s19, s20, s21, s22, s23] μ = some (.ok (.new ((one.map (fun _ => 0)).map D.int)), μ) := by
  rw [List.map_map]
  exact eLc_all one D.int (fun x => D.int ((fun _ => 0) x)) (ds := one.map D.int) (chk := fun _ => True) (by simp) rfl (by omega) trivial fun x hx => ⟨_, rfl, by simp [wipeD], rfl⟩

theorem c3 (s0 s1 s2 s4 s5 s6 s7 s8 s9 s10 s11 s12 s13 s14 s15 s16 s17 s18 s19 s20 s21 s22 s23 : Option D) (μ : Mem) : law_c3 [s0, s1, s2, some (.tup (one.map D.int)), s4, s5, s6, s7, s8, s9, s10, s11, s12, s13, s14, s15, s16, s17, s18, s19, s20, s21, s22, s23] μ = some (.ok (.new ((one.map (fun x => 0 - x)).map D.int)), μ) := by
  rw [List.map_map]
  exact eLc_all one D.int (fun x => D.int ((fun x => 0 - x) x)) (ds := one.map D.int) (chk := fun _ => True) (by simp) rfl (by omega) trivial fun x hx => ⟨_, rfl, by simp [wipeD], rfl⟩

omit h1 in
theorem c4 (s0 s1 s2 s3 s4 s5 s6 s7 s8 s9 s10 s11 s12 s13 s14 s15 s16 s18 s19 s20 s21 s22 s23 : Option D) (μ : Mem) : law_c4 [s0, s1, s2, s3, s4, s5, s6, s7, s8, s9, s10, s11, s12, s13, s14, s15, s16, some (.tup (one.map D.int)), s18, s19, s20, s21, s22, s23] μ = some (.ok (.new (one.map D.int)), μ) :=
  eLc_all one D.int D.int (ds := one.map D.int) (chk := fun _ => True) (by simp) rfl (by omega) trivial fun x hx => ⟨_, rfl, by simp [wipeD], rfl⟩

theorem c5 (f : Int) (hf : 0 ≤ f ∧ f ≤ 60) (s0 s1 s2 s4 s5 s6 s7 s8 s9 s10 s11 s12 s13 s14 s16 s17 s18 s19 s20 s21 s22 s23 : Option D) (μ : Mem) : law_c5 [s0, s1, s2, some (.tup (one.map D.int)), s4, s5, s6, s7, s8, s9, s10, s11, s12, s13, s14, some (.int f), s16, s17, s18, s19, s20, s21, s22, s23] μ = some (.ok (.new ((one.map (f * ·)).map D.int)), μ) := by
  rw [List.map_map]
  refine eLc_all one D.int (fun x => D.int (f * x)) (ds := one.map D.int) (chk := fun _ => True) (by simp) rfl (by omega) trivial fun x hx => ?_
  have m : ∀ μ, gMul μ (.int f) (.int x) = some (.int (f * x)) := fun μ => mul_int (small_mul 20 120 (by omega) (h1 x hx))
  exact ⟨_, rfl, by simp [wipeD, m], rfl⟩

theorem c6 (ds : List Int) (hd : ds.length = 44) (s0 s1 s2 s4 s6 s7 s8 s9 s10 s11 s12 s13 s14 s15 s16 s17 s18 s19 s20 s21 s22 s23 : Option D) : law_c6 [s0, s1, s2, some (.tup (one.map D.int)), s4, some (.ref 0), s6, s7, s8, s9, s10, s11, s12, s13, s14, s15, s16, s17, s18, s19, s20, s21, s22, s23] [.lst (ds.map D.int)] = some (.ok (.new ((one.map ((1 + ds.getD 41 0 % 3) * ·)).map D.int)), [.lst (ds.map D.int)]) := by
  rw [List.map_map]
  refine eLc_all one D.int (fun x => D.int ((1 + ds.getD 41 0 % 3) * x)) (ds := one.map D.int) (chk := fun _ => True) (by simp) rfl (by omega) trivial fun x hx => ?_
  have h2 : gIx [.lst (ds.map D.int)] (.ref 0) (.int 41) = some (.int (ds.getD 41 0)) := ixd ds 0 (by omega) hd [] 41 (by omega)
  generalize ds.getD 41 0 = z at *
  have h3 : ∀ μ, gModI μ (.int z) (.int 3) = some (.int (z % 3)) := fun μ => mod_int (by decide)
  have m : ∀ μ, gMul μ (.int (1 + z % 3)) (.int x) = some (.int ((1 + z % 3) * x)) := fun μ => mul_int (small_mul 20 120 (by omega) (h1 x hx))
  exact ⟨_, rfl, by simp [wipeD, m, h2, h3], rfl⟩

theorem c7 (y : Int) (s0 s1 s2 s4 s5 s6 s7 s8 s9 s10 s11 s12 s13 s14 s15 s16 s17 s18 s19 s20 s21 s22 s23 : Option D) (μ : Mem) : law_c7 [s0, s1, s2, some (.tup ((y :: one).map D.int)), s4, s5, s6, s7, s8, s9, s10, s11, s12, s13, s14, s15, s16, s17, s18, s19, s20, s21, s22, s23] μ = some (.ok (.new ((one.map (· % 6)).map D.int)), μ) := by
  rw [List.map_map]
  refine eLc_all one D.int (fun x => D.int (x % 6)) (ds := one.map D.int) (chk := fun _ => True) (by simp [sl_tup1]) rfl (by omega) trivial fun x hx => ?_
  have m : ∀ μ, gModI μ (.int x) (.int 6) = some (.int (x % 6)) := fun μ => mod_int (by decide)
  exact ⟨_, rfl, by simp [wipeD, m], rfl⟩
end
end LK

namespace LK
open PySem PySem.Spec PyProof.Rows L2 DL
/-! ### the loops of the law -/
def Ok2 (n : Nat) (p : List Int × List Int) : Prop := Row p.1 ∧ Row p.2 ∧ p.1.length = n + 1 ∧ p.2.length = n + 1
abbrev PL (p : List Int × List Int) : D := .tup [.tup (p.1.map D.int), .tup (p.2.map D.int)]
theorem ixP0 (μ : Mem) (p : List Int × List Int) : gIx μ (PL p) (.int 0) = some (.tup (p.1.map D.int)) := ix_map (l := [p.1, p.2]) (e := fun l : List Int => D.tup (l.map D.int)) [] (.inl rfl) (by decide) (by simp) (fun _ _ e => by cases e)
theorem ixP1 (μ : Mem) (p : List Int × List Int) : gIx μ (PL p) (.int 1) = some (.tup (p.2.map D.int)) := ix_map (l := [p.1, p.2]) (e := fun l : List Int => D.tup (l.map D.int)) [] (.inl rfl) (by decide) (by simp) (fun _ _ e => by cases e)
theorem mul_both (n : Nat) (hn : n ≤ 40) (p : List Int × List Int) (h : Ok2 n p) : m_is_multiple [.tup (p.1.map D.int), .tup (p.2.map D.int)] = m__law_multiple [.tup (p.1.map D.int), .tup (p.2.map D.int)] := by
  obtain ⟨h1, h2, h3, h4⟩ := h
  rw [is_multiple_eq p.1 p.2 h1 h2 (by omega), law_multiple_eq p.1 p.2 h1 h2 (by omega) (by omega), lawMul_eq p.1 p.2 (by omega)]

theorem lp1 (n : Nat) (hn : n ≤ 40) (ps : List (List Int × List Int)) (hp : ∀ p ∈ ps, Ok2 n p) (s0 s1 s2 s3 s4 s5 s6 s7 s8 s9 s10 s11 s12 s13 s14 s15 s16 s17 s18 s20 s21 s22 s23 : Option D) (μ : Mem) (r : Nat) (hm : μ[r]? = some (.lst (ps.map PL))) : ∃ o, law_l1 [s0, s1, s2, s3, s4, s5, s6, s7, s8, s9, s10, s11, s12, s13, s14, s15, s16, s17, s18, some (.ref r), s20, s21, s22, s23] μ = some (.nx, [s0, s1, s2, s3, s4, s5, s6, s7, s8, s9, s10, s11, s12, s13, s14, s15, s16, s17, s18, some (.ref r), o, s21, s22, s23], μ) := by
  unfold law_l1
  rw [sFor_of (ds := ps.map PL) (chk := fun μ' => μ'[r]? = some (.lst (ps.map PL))) (by simp [srcD, hm])]
  obtain ⟨sd2, μ2, q, o, rfl, rfl⟩ := loop_nx (chk := fun μ' => μ'[r]? = some (.lst (ps.map PL))) (t := gD 20) (b := law_b1) PL
    (fun dn sd μ' => ∃ o, sd = [s0, s1, s2, s3, s4, s5, s6, s7, s8, s9, s10, s11, s12, s13, s14, s15, s16, s17, s18, some (.ref r), o, s21, s22, s23] ∧ μ' = μ) ps [] _ _ ⟨s20, rfl, rfl⟩ (by
      rintro dn p rest sd μ' he ⟨o, rfl, rfl⟩
      have hx := hp p (by rw [show ps = dn ++ p :: rest from he]; simp)
      refine ⟨_, _, rfl, [s0, s1, s2, s3, s4, s5, s6, s7, s8, s9, s10, s11, s12, s13, s14, s15, s16, s17, s18, some (.ref r), some (PL p), s21, s22, s23], μ', ?_, hm, _, rfl, rfl⟩
      have e1 := mul_both n hn p hx
      obtain ⟨h1, h2, h3, h4⟩ := hx
      rw [is_multiple_eq p.1 p.2 h1 h2 (by omega)] at e1
      have e2 := is_multiple_eq p.1 p.2 h1 h2 (by omega)
      have i0 := ixP0 μ' p
      have i1 := ixP1 μ' p
      have a1 := argD_row μ' p.1
      have a2 := argD_row μ' p.2
      generalize isMul (p.1.zip p.2) = bb at *
      generalize D.tup (p.1.map D.int) = A at *
      generalize D.tup (p.2.map D.int) = B at *
      unfold law_b1
      simp [i0, i1, a1, a2, e2, ← e1, bools_eq])
  exact ⟨o, q⟩

def rowB (l : List Int) : Bool := match l with
  | [] => true
  | x :: r => decide (x ≥ 0) && r.all fun y => decide (0 ≤ y) && decide (y ≤ x)
theorem row_both (l : List Int) (h : 1 ≤ l.length) (h2 : l.length ≤ 100) : m_is_blend [.tup (l.map D.int)] = some (.ok (.bl (rowB l))) ∧ m__law_small_is_blend [.tup (l.map D.int)] = some (.ok (.bl (rowB l))) := by
  cases l with
  | nil => simp at h
  | cons x r => exact ⟨is_blend_eq x r (by simp at h2; omega), small_blend_eq x r (by simp at h2; omega)⟩
theorem lp2 (a b y : Int) (ra rb one : List Int) (la : ra.length ≤ 40) (lb : rb.length ≤ 40) (hl : one.length ≤ 40) (h1 : ∀ x ∈ one, x.natAbs < 2 ^ 120) (s0 s1 s2 s5 s6 s7 s8 s9 s10 s11 s12 s14 s15 s16 s17 s18 s19 s20 s21 s22 s23 : Option D) (μ : Mem) : ∃ o, law_l2 [s0, s1, s2, some (.tup ((y :: one).map D.int)), some (.tup ((b :: rb).map D.int)), s5, s6, s7, s8, s9, s10, s11, s12, some (.tup ((a :: ra).map D.int)), s14, s15, s16, s17, s18, s19, s20, s21, s22, s23] μ = some (.nx, [s0, s1, s2, some (.tup ((y :: one).map D.int)), some (.tup ((b :: rb).map D.int)), s5, s6, s7, s8, s9, s10, s11, s12, some (.tup ((a :: ra).map D.int)), o, s15, s16, s17, s18, s19, s20, s21, s22, s23], μ) := by
  have g7 := c7 one h1 (by omega) y (s0) (s1) (s2) (some (.tup ((b :: rb).map D.int))) (s5) (s6) (s7) (s8) (s9) (s10) (s11) (s12) (some (.tup ((a :: ra).map D.int))) (s14) (s15) (s16) (s17) (s18) (s19) (s20) (s21) (s22) (s23) μ
  have ga : gAdd μ (.new [D.int 5]) (.new ((one.map (· % 6)).map D.int)) = some (.new ((5 :: one.map (· % 6)).map D.int)) := by
    rw [add_nn (by simp; omega)]
    rfl
  have gb : gTuple μ [.new ((5 :: one.map (· % 6)).map D.int)] = some (.tup ((5 :: one.map (· % 6)).map D.int)) := rfl
  have lc : (5 :: one.map (· % 6)).length ≤ 41 := by simp; omega
  have lc1 : 1 ≤ (5 :: one.map (· % 6)).length := by simp
  have ea : ((a :: ra).length) ≤ 41 := by simp; omega
  have eb : ((b :: rb).length) ≤ 41 := by simp; omega
  have ea1 : 1 ≤ (a :: ra).length := by simp
  have eb1 : 1 ≤ (b :: rb).length := by simp
  generalize (one.map (· % 6)).map D.int = Z at *
  generalize 5 :: one.map (· % 6) = C at *
  generalize a :: ra = A at *
  generalize b :: rb = B at *
  generalize (y :: one).map D.int = Y at *
  unfold law_l2
  rw [sFor_of (ds := [A, B, C].map fun l : List Int => D.tup (l.map D.int)) (chk := fun _ => True) (by simp [g7, ga, gb])]
  obtain ⟨sd2, μ2, q, o, rfl, rfl⟩ := loop_nx (chk := fun _ => True) (t := gD 14) (b := law_b2) (fun l : List Int => D.tup (l.map D.int))
    (fun dn sd μ' => ∃ o, sd = [s0, s1, s2, some (.tup Y), some (.tup (B.map D.int)), s5, s6, s7, s8, s9, s10, s11, s12, some (.tup (A.map D.int)), o, s15, s16, s17, s18, s19, s20, s21, s22, s23] ∧ μ' = μ) [A, B, C] [] _ _ ⟨s14, rfl, rfl⟩ (by
      rintro dn p rest sd μ' he ⟨o, rfl, rfl⟩
      have hx : p ∈ [A, B, C] := by rw [show [A, B, C] = dn ++ p :: rest from he]; simp
      have hp : 1 ≤ p.length ∧ p.length ≤ 100 := by
        simp only [List.mem_cons, List.not_mem_nil, or_false] at hx
        rcases hx with rfl | rfl | rfl <;> omega
      refine ⟨_, _, rfl, [s0, s1, s2, some (.tup Y), some (.tup (B.map D.int)), s5, s6, s7, s8, s9, s10, s11, s12, some (.tup (A.map D.int)), some (.tup (p.map D.int)), s15, s16, s17, s18, s19, s20, s21, s22, s23], μ', ?_, trivial, _, rfl, rfl⟩
      obtain ⟨e1, e2⟩ := row_both p hp.1 hp.2
      have a1 := argD_row μ' p
      generalize rowB p = bb at *
      unfold law_b2
      simp [e1, e2, a1, bools_eq])
  exact ⟨o, q⟩

theorem lp3 (n m : Nat) (hn : n ≤ 40) (hm1 : 1 ≤ m) (hm : m ≤ n) (s0 s1 s3 s4 s5 s6 s7 s9 s10 s11 s12 s13 s14 s15 s16 s17 s18 s19 s20 s21 s22 s23 : Option D) (μ : Mem) : ∃ o, law_l3 [s0, s1, some (.int n), s3, s4, s5, s6, s7, some (.int m), s9, s10, s11, s12, s13, s14, s15, s16, s17, s18, s19, s20, s21, s22, s23] μ = some (.nx, [s0, s1, some (.int n), s3, s4, s5, s6, s7, some (.int m), o, s10, s11, s12, s13, s14, s15, s16, s17, s18, s19, s20, s21, s22, s23], μ) := by
  unfold law_l3
  rw [sFor_of (iR1_of (n := 2) rfl (by omega))]
  obtain ⟨sd2, μ2, q, o, rfl, rfl⟩ := loop_nx (chk := fun _ => True) (t := gD 9) (b := law_b3) (fun i : Nat => D.int i)
    (fun dn sd μ' => ∃ o, sd = [s0, s1, some (.int n), s3, s4, s5, s6, s7, some (.int m), o, s10, s11, s12, s13, s14, s15, s16, s17, s18, s19, s20, s21, s22, s23] ∧ μ' = μ) (List.range 2) [] _ _ ⟨s9, rfl, rfl⟩ (by
      rintro dn p rest sd μ' he ⟨o, rfl, rfl⟩
      have hx : p < 2 := by
        have : p ∈ List.range 2 := by rw [show List.range 2 = dn ++ p :: rest from he]; simp
        simpa using this
      refine ⟨_, _, rfl, [s0, s1, some (.int n), s3, s4, s5, s6, s7, some (.int m), some (.int p), s10, s11, s12, s13, s14, s15, s16, s17, s18, s19, s20, s21, s22, s23], μ', ?_, trivial, _, rfl, rfl⟩
      have e1 := pair_eq n m p hn hm1 hm (by omega)
      have e2 := law_pair_eq n m p hn hm (by omega)
      have e3 := same_tup 1 (pairC n m p) (by simp [pairC]; omega)
      have a1 := argD_row μ' (pairC n m p)
      generalize D.tup ((pairC n m p).map D.int) = G at *
      unfold law_b3
      simp [e1, e2, e3, a1])
  exact ⟨o, q⟩
theorem lp4 (n : Nat) (hn : n ≤ 40) (s0 s1 s3 s4 s5 s6 s7 s8 s9 s10 s11 s12 s13 s14 s15 s16 s17 s18 s19 s20 s21 s22 s23 : Option D) (μ : Mem) : ∃ o o2, law_l4 [s0, s1, some (.int n), s3, s4, s5, s6, s7, s8, s9, s10, s11, s12, s13, s14, s15, s16, s17, s18, s19, s20, s21, s22, s23] μ = some (.nx, [s0, s1, some (.int n), s3, s4, s5, s6, s7, o, o2, s10, s11, s12, s13, s14, s15, s16, s17, s18, s19, s20, s21, s22, s23], μ) := by
  unfold law_l4
  have hr : ∀ sd : Sl, sd[2]? = some (some (.int n)) → iR2 (eCons (eC (.int 1)) (eCons (eBin gAdd (eV 2) (eC (.int 1))) eNil)) sd μ = some (.ok ((List.range n).map (fun i : Nat => D.int (1 + i)), fun _ => True), μ) := fun sd h => by
    unfold iR2
    have e : eCons (eC (.int 1)) (eCons (eBin gAdd (eV 2) (eC (.int 1))) eNil) sd μ = some (.ok [.int 1, .int (n + 1)], μ) := by simp [h]
    rw [e]
    simp only [bE_ok, two, Option.bind_some, DL.intD]
    rw [when_t ⟨by omega, by omega, by omega⟩]
    unfold rangeD
    rw [show ((n : Int) + 1 - 1).toNat = n by omega]
  rw [sFor_of (hr _ rfl)]
  obtain ⟨sd2, μ2, q, o, o2, rfl, rfl⟩ := loop_nx (chk := fun _ => True) (t := gD 8) (b := law_b4) (fun i : Nat => D.int (1 + i))
    (fun dn sd μ' => ∃ o o2, sd = [s0, s1, some (.int n), s3, s4, s5, s6, s7, o, o2, s10, s11, s12, s13, s14, s15, s16, s17, s18, s19, s20, s21, s22, s23] ∧ μ' = μ) (List.range n) [] _ _ ⟨s8, s9, rfl, rfl⟩ (by
      rintro dn p rest sd μ' he ⟨o, o2, rfl, rfl⟩
      have hx : p < n := by
        have : p ∈ List.range n := by rw [show List.range n = dn ++ p :: rest from he]; simp
        simpa using this
      obtain ⟨o3, e⟩ := lp3 n (1 + p) hn (by omega) (by omega) s0 s1 s3 s4 s5 s6 s7 o2 s10 s11 s12 s13 s14 s15 s16 s17 s18 s19 s20 s21 s22 s23 μ'
      exact ⟨_, _, rfl, _, μ', by simpa [law_b4] using e, trivial, _, _, rfl, rfl⟩)
  exact ⟨o, o2, q⟩

end LK

namespace LK
open PySem PySem.Spec PyProof.Rows L2 DL
theorem worth_dot (c b : List Int) (hc : Row c) (hb : Row b) (hl : c.length ≤ 100) (he : c.length = b.length) : m__law_worth [.tup (c.map D.int), .tup (b.map D.int)] = some (.ok (.int (dot c b))) := by
  rw [worth_eq c b hc hb hl he]
  unfold dot
  rw [zip_range c b he, List.map_map]
  rfl
theorem at_dot (c b : List Int) (hc : Row c) (hb : Row b) (hl : c.length ≤ 100) : m_number_at [.tup (c.map D.int), .tup (b.map D.int)] = some (.ok (.int (dot c b))) := number_at_eq c b hc hb hl
section
variable (N : List D) (c0 c1 c2 c3 f a1 a2 a3 : Int) (n : Nat) (y b : Int) (r1 r2 ds : List Int)
  (hA : ∀ μ, argD μ (.lck N) = some (.lck N))
  (e0 : m__law_cell [.lck N, .int 0] = some (.ok (.int c0))) (e1 : m__law_cell [.lck N, .int 1] = some (.ok (.int c1))) (e2 : m__law_cell [.lck N, .int 2] = some (.ok (.int c2))) (e3 : m__law_cell [.lck N, .int 3] = some (.ok (.int c3)))
  (f0 : ∀ μ, gAbs μ [.int c0] = some (.int f)) (f1 : ∀ μ, gAbs μ [.int c1] = some (.int a1)) (f2 : ∀ μ, gAbs μ [.int c2] = some (.int a2)) (f3 : ∀ μ, gAbs μ [.int c3] = some (.int a3))
  (hn : n ≤ 40) (hnm : (if f / 41 % 3 = 0 then f % 41 else f / 41 % 5) = n)
  (k1 : m__law_claim [.int a1, .int n] = some (.ok (.tup ((y :: r1).map D.int)))) (l1 : r1.length = n) (q1 : ∀ x ∈ y :: r1, x.natAbs < 2 ^ 120)
  (k2 : m__law_claim [.int a2, .int n] = some (.ok (.tup ((b :: r2).map D.int)))) (l2 : r2.length = n) (q2 : ∀ x ∈ b :: r2, x.natAbs < 2 ^ 120)
  (k3 : m__law_draws [.int a3, .int 44] = some (.ok (.new (ds.map D.int)))) (l3 : ds.length = 44)
include hA e0 e1 e2 e3 f0 f1 f2 f3 hn hnm k1 l1 q1 k2 l2 q2 k3 l3
theorem law_core : ∃ sd μ, b_law [some (.lck N), none, none, none, none, none, none, none, none, none, none, none, none, none, none, none, none, none, none, none, none, none, none, none] [] = some (.ret (.bl true), sd, μ) := by
  obtain ⟨one, hone⟩ : ∃ one, one = y :: r1 := ⟨_, rfl⟩
  obtain ⟨two, htwo⟩ : ∃ two, two = b :: r2 := ⟨_, rfl⟩
  have one_l : one.length = n + 1 := by rw [hone]; simp [l1]
  have two_l : two.length = n + 1 := by rw [htwo]; simp [l2]
  rw [← hone] at k1 q1
  rw [← htwo] at k2 q2
  have one_r : Row one := row_of q1
  have two_r : Row two := row_of q2
  have h_law_s1 : law_s1 [some (.lck N), none, none, none, none, none, none, none, none, none, none, none, none, none, none, none, none, none, none, none, none, none, none, none] [] = some (.nx, [some (.lck N), some (.int f), none, none, none, none, none, none, none, none, none, none, none, none, none, none, none, none, none, none, none, none, none, none], []) := by
    unfold law_s1
    simp [-abs_int, -List.map_set, e0, f0, hA]
  have h_law_s2 : law_s2 [some (.lck N), some (.int f), none, none, none, none, none, none, none, none, none, none, none, none, none, none, none, none, none, none, none, none, none, none] [] = some (.nx, [some (.lck N), some (.int f), some (.int n), none, none, none, none, none, none, none, none, none, none, none, none, none, none, none, none, none, none, none, none, none], []) := by
    have d41 : ∀ μ, gDivI μ (.int f) (.int 41) = some (.int (f / 41)) := fun μ => div_int ⟨by decide, by decide⟩
    have m3 : ∀ μ, gModI μ (.int (f / 41)) (.int 3) = some (.int (f / 41 % 3)) := fun μ => mod_int (by decide)
    have m41 : ∀ μ, gModI μ (.int f) (.int 41) = some (.int (f % 41)) := fun μ => mod_int (by decide)
    have m5 : ∀ μ, gModI μ (.int (f / 41)) (.int 5) = some (.int (f / 41 % 5)) := fun μ => mod_int (by decide)
    unfold law_s2
    by_cases q : f / 41 % 3 = 0
    · rw [if_pos q] at hnm
      simp [d41, m3, m41, q, hnm]
    · rw [if_neg q] at hnm
      simp [d41, m3, m5, q, hnm]
  have h_law_s3 : law_s3 [some (.lck N), some (.int f), some (.int n), none, none, none, none, none, none, none, none, none, none, none, none, none, none, none, none, none, none, none, none, none] [] = some (.nx, [some (.lck N), some (.int f), some (.int n), some (.tup (one.map D.int)), none, none, none, none, none, none, none, none, none, none, none, none, none, none, none, none, none, none, none, none], []) := by
    unfold law_s3
    simp [-abs_int, -List.map_set, e1, f1, hA, k1]
  have h_law_s4 : law_s4 [some (.lck N), some (.int f), some (.int n), some (.tup (one.map D.int)), none, none, none, none, none, none, none, none, none, none, none, none, none, none, none, none, none, none, none, none] [] = some (.nx, [some (.lck N), some (.int f), some (.int n), some (.tup (one.map D.int)), some (.tup (two.map D.int)), none, none, none, none, none, none, none, none, none, none, none, none, none, none, none, none, none, none, none], []) := by
    unfold law_s4
    simp [-abs_int, -List.map_set, e2, f2, hA, k2]
  have h_law_s5 : law_s5 [some (.lck N), some (.int f), some (.int n), some (.tup (one.map D.int)), some (.tup (two.map D.int)), none, none, none, none, none, none, none, none, none, none, none, none, none, none, none, none, none, none, none] [] = some (.nx, [some (.lck N), some (.int f), some (.int n), some (.tup (one.map D.int)), some (.tup (two.map D.int)), some (.ref 0), none, none, none, none, none, none, none, none, none, none, none, none, none, none, none, none, none, none], [.lst (ds.map D.int)]) := by
    unfold law_s5
    simp [-abs_int, -List.map_set, e3, f3, hA, k3]
  have h_law_s6 : law_s6 [some (.lck N), some (.int f), some (.int n), some (.tup (one.map D.int)), some (.tup (two.map D.int)), some (.ref 0), none, none, none, none, none, none, none, none, none, none, none, none, none, none, none, none, none, none] [.lst (ds.map D.int)] = some (.nx, [some (.lck N), some (.int f), some (.int n), some (.tup (one.map D.int)), some (.tup (two.map D.int)), some (.ref 0), none, none, none, none, none, none, none, none, none, none, none, none, none, none, none, none, none, none], [.lst (ds.map D.int)]) := by
    have en := nothing_eq n hn
    have el := law_nothing_eq n hn
    have es := same_tup 1 (-1 :: List.replicate n 0) (by simp; omega)
    have ar := argD_row [.lst (ds.map D.int)] (-1 :: List.replicate n 0)
    generalize (-1 :: List.replicate n (0 : Int)).map D.int = G at *
    unfold law_s6
    simp [-abs_int, -List.map_set, en, el, es, ar]
  have h_law_s7 : law_s7 [some (.lck N), some (.int f), some (.int n), some (.tup (one.map D.int)), some (.tup (two.map D.int)), some (.ref 0), none, none, none, none, none, none, none, none, none, none, none, none, none, none, none, none, none, none] [.lst (ds.map D.int)] = some (.nx, [some (.lck N), some (.int f), some (.int n), some (.tup (one.map D.int)), some (.tup (two.map D.int)), some (.ref 0), some (.tup ((wishL ds n).map P2)), none, none, none, none, none, none, none, none, none, none, none, none, none, none, none, none, none], [.lst (ds.map D.int)]) := by
    have c := c11 ds n hn l3 (some (.lck N)) (some (.int f)) (some (.tup (one.map D.int))) (some (.tup (two.map D.int))) none none none none none none none none none none none none none none none none none none
    unfold law_s7
    simp [-abs_int, -List.map_set, c]
  have h_law_s8 : law_s8 [some (.lck N), some (.int f), some (.int n), some (.tup (one.map D.int)), some (.tup (two.map D.int)), some (.ref 0), some (.tup ((wishL ds n).map P2)), none, none, none, none, none, none, none, none, none, none, none, none, none, none, none, none, none] [.lst (ds.map D.int)] = some (.nx, [some (.lck N), some (.int f), some (.int n), some (.tup (one.map D.int)), some (.tup (two.map D.int)), some (.ref 0), some (.tup ((wishL ds n).map P2)), some (.tup ((wishC n (wishL ds n)).map D.int)), none, none, none, none, none, none, none, none, none, none, none, none, none, none, none, none], [.lst (ds.map D.int)]) := by
    have e := wish_eq n (wishL ds n) hn (wish_ok ds n)
    unfold law_s8
    simp [-abs_int, -List.map_set, e, argD_prs]
  have h_law_s9 : law_s9 [some (.lck N), some (.int f), some (.int n), some (.tup (one.map D.int)), some (.tup (two.map D.int)), some (.ref 0), some (.tup ((wishL ds n).map P2)), some (.tup ((wishC n (wishL ds n)).map D.int)), none, none, none, none, none, none, none, none, none, none, none, none, none, none, none, none] [.lst (ds.map D.int)] = some (.nx, [some (.lck N), some (.int f), some (.int n), some (.tup (one.map D.int)), some (.tup (two.map D.int)), some (.ref 0), some (.tup ((wishL ds n).map P2)), some (.tup ((wishC n (wishL ds n)).map D.int)), none, none, none, none, none, none, none, none, none, none, none, none, none, none, none, none], [.lst (ds.map D.int)]) := by
    have e := law_wish_eq n (wishL ds n) hn (wish_ok ds n)
    have es := same_tup 1 (wishC n (wishL ds n)) (by rw [wishC_len]; omega)
    have ar := argD_row [.lst (ds.map D.int)] (wishC n (wishL ds n))
    unfold law_s9
    simp [-abs_int, -List.map_set, e, argD_prs, es, ar]
  obtain ⟨o8, o9, h_l4⟩ := lp4 n hn (some (.lck N)) (some (.int f)) (some (.tup (one.map D.int))) (some (.tup (two.map D.int))) (some (.ref 0)) (some (.tup ((wishL ds n).map P2))) (some (.tup ((wishC n (wishL ds n)).map D.int))) (none) (none) (none) (none) (none) (none) (none) (none) (none) (none) (none) (none) (none) (none) (none) (none) [.lst (ds.map D.int)]
  have h_law_s11 : law_s11 [some (.lck N), some (.int f), some (.int n), some (.tup (one.map D.int)), some (.tup (two.map D.int)), some (.ref 0), some (.tup ((wishL ds n).map P2)), some (.tup ((wishC n (wishL ds n)).map D.int)), o8, o9, none, none, none, none, none, none, none, none, none, none, none, none, none, none] [.lst (ds.map D.int)] = some (.nx, [some (.lck N), some (.int f), some (.int n), some (.tup (one.map D.int)), some (.tup (two.map D.int)), some (.ref 0), some (.tup ((wishL ds n).map P2)), some (.tup ((wishC n (wishL ds n)).map D.int)), o8, o9, some (.tup ((fillL ds n).map P2)), none, none, none, none, none, none, none, none, none, none, none, none, none], [.lst (ds.map D.int)]) := by
    have c := c10 ds n hn l3 (some (.lck N)) (some (.int f)) (some (.tup (one.map D.int))) (some (.tup (two.map D.int))) (some (.tup ((wishL ds n).map P2))) (some (.tup ((wishC n (wishL ds n)).map D.int))) (o8) (o9) (none) (none) (none) (none) (none) (none) (none) (none) (none) (none) (none) (none) (none) (none)
    unfold law_s11
    simp [-abs_int, -List.map_set, c]
  have h_law_s12 : law_s12 [some (.lck N), some (.int f), some (.int n), some (.tup (one.map D.int)), some (.tup (two.map D.int)), some (.ref 0), some (.tup ((wishL ds n).map P2)), some (.tup ((wishC n (wishL ds n)).map D.int)), o8, o9, some (.tup ((fillL ds n).map P2)), none, none, none, none, none, none, none, none, none, none, none, none, none] [.lst (ds.map D.int)] = some (.nx, [some (.lck N), some (.int f), some (.int n), some (.tup (one.map D.int)), some (.tup (two.map D.int)), some (.ref 0), some (.tup ((wishL ds n).map P2)), some (.tup ((wishC n (wishL ds n)).map D.int)), o8, o9, some (.tup ((fillL ds n).map P2)), some (.tup ((blendL ds n).map D.int)), none, none, none, none, none, none, none, none, none, none, none, none], [.lst (ds.map D.int)]) := by
    have e : m_filling_blend [.tup ((fillL ds n).map P2)] = some (.ok (.tup ((blendL ds n).map D.int))) := filling_blend_eq (fillL ds n) (by simp [fillL]; omega)
    unfold law_s12
    simp [-abs_int, -List.map_set, e, argD_prs]
  have h_law_s13 : law_s13 [some (.lck N), some (.int f), some (.int n), some (.tup (one.map D.int)), some (.tup (two.map D.int)), some (.ref 0), some (.tup ((wishL ds n).map P2)), some (.tup ((wishC n (wishL ds n)).map D.int)), o8, o9, some (.tup ((fillL ds n).map P2)), some (.tup ((blendL ds n).map D.int)), none, none, none, none, none, none, none, none, none, none, none, none] [.lst (ds.map D.int)] = some (.nx, [some (.lck N), some (.int f), some (.int n), some (.tup (one.map D.int)), some (.tup (two.map D.int)), some (.ref 0), some (.tup ((wishL ds n).map P2)), some (.tup ((wishC n (wishL ds n)).map D.int)), o8, o9, some (.tup ((fillL ds n).map P2)), some (.tup ((blendL ds n).map D.int)), none, none, none, none, none, none, none, none, none, none, none, none], [.lst (ds.map D.int)]) := by
    have e : m__law_blend_of [.tup ((fillL ds n).map P2)] = some (.ok (.tup ((blendL ds n).map D.int))) := blend_of_eq (fillL ds n) (by simp [fillL]; omega)
    have es := same_tup 1 (blendL ds n) (by rw [blendL_len]; omega)
    have ar := argD_row [.lst (ds.map D.int)] (blendL ds n)
    have ib := is_blendL ds n hn
    unfold law_s13
    simp [-abs_int, -List.map_set, e, argD_prs, es, ar, ib, bools_eq]
  have h_law_s14 : law_s14 [some (.lck N), some (.int f), some (.int n), some (.tup (one.map D.int)), some (.tup (two.map D.int)), some (.ref 0), some (.tup ((wishL ds n).map P2)), some (.tup ((wishC n (wishL ds n)).map D.int)), o8, o9, some (.tup ((fillL ds n).map P2)), some (.tup ((blendL ds n).map D.int)), none, none, none, none, none, none, none, none, none, none, none, none] [.lst (ds.map D.int)] = some (.nx, [some (.lck N), some (.int f), some (.int n), some (.tup (one.map D.int)), some (.tup (two.map D.int)), some (.ref 0), some (.tup ((wishL ds n).map P2)), some (.tup ((wishC n (wishL ds n)).map D.int)), o8, o9, some (.tup ((fillL ds n).map P2)), some (.tup ((blendL ds n).map D.int)), some (.int ((metL ds n).length : Int)), none, none, none, none, none, none, none, none, none, none, none], [.lst (ds.map D.int)]) := by
    have c := c9 ds n hn l3 (some (.lck N)) (some (.int f)) (some (.int n)) (some (.tup (one.map D.int))) (some (.tup (two.map D.int))) (some (.ref 0)) (some (.tup ((wishC n (wishL ds n)).map D.int))) (o8) (o9) (some (.tup ((blendL ds n).map D.int))) (none) (none) (none) (none) (none) (none) (none) (none) (none) (none) (none) (none) [.lst (ds.map D.int)]
    unfold law_s14
    simp [-abs_int, -List.map_set, c]
  have h_law_s15 : law_s15 [some (.lck N), some (.int f), some (.int n), some (.tup (one.map D.int)), some (.tup (two.map D.int)), some (.ref 0), some (.tup ((wishL ds n).map P2)), some (.tup ((wishC n (wishL ds n)).map D.int)), o8, o9, some (.tup ((fillL ds n).map P2)), some (.tup ((blendL ds n).map D.int)), some (.int ((metL ds n).length : Int)), none, none, none, none, none, none, none, none, none, none, none] [.lst (ds.map D.int)] = some (.nx, [some (.lck N), some (.int f), some (.int n), some (.tup (one.map D.int)), some (.tup (two.map D.int)), some (.ref 0), some (.tup ((wishL ds n).map P2)), some (.tup ((wishC n (wishL ds n)).map D.int)), o8, o9, some (.tup ((fillL ds n).map P2)), some (.tup ((blendL ds n).map D.int)), some (.int ((metL ds n).length : Int)), none, none, none, none, none, none, none, none, none, none, none], [.lst (ds.map D.int)]) := by
    have e : m_number_at [.tup ((wishC n (wishL ds n)).map D.int), .tup ((blendL ds n).map D.int)] = some (.ok (.int ((metL ds n).length - 1))) := by
      rw [at_dot _ _ (wishC_row ds n hn) (blendL_row ds n) (by rw [wishC_len]; omega), met_eq]
    have e5 := at_dot one two one_r two_r (by omega)
    have e6 := worth_dot one two one_r two_r (by omega) (by omega)
    have ar := argD_row [.lst (ds.map D.int)] (blendL ds n)
    have ar2 := argD_row [.lst (ds.map D.int)] (wishC n (wishL ds n))
    have ar3 := argD_row [.lst (ds.map D.int)] one
    have ar4 := argD_row [.lst (ds.map D.int)] two
    unfold law_s15
    simp [-abs_int, -List.map_set, e, ar, ar2, ar3, ar4, e5, e6, same_int]
  obtain ⟨rowR, hrow⟩ : ∃ rowR, rowR = ds.getD 43 0 % 4 :: rowL ds n := ⟨_, rfl⟩
  have h_law_s16 : law_s16 [some (.lck N), some (.int f), some (.int n), some (.tup (one.map D.int)), some (.tup (two.map D.int)), some (.ref 0), some (.tup ((wishL ds n).map P2)), some (.tup ((wishC n (wishL ds n)).map D.int)), o8, o9, some (.tup ((fillL ds n).map P2)), some (.tup ((blendL ds n).map D.int)), some (.int ((metL ds n).length : Int)), none, none, none, none, none, none, none, none, none, none, none] [.lst (ds.map D.int)] = some (.nx, [some (.lck N), some (.int f), some (.int n), some (.tup (one.map D.int)), some (.tup (two.map D.int)), some (.ref 0), some (.tup ((wishL ds n).map P2)), some (.tup ((wishC n (wishL ds n)).map D.int)), o8, o9, some (.tup ((fillL ds n).map P2)), some (.tup ((blendL ds n).map D.int)), some (.int ((metL ds n).length : Int)), some (.tup (rowR.map D.int)), none, none, none, none, none, none, none, none, none, none], [.lst (ds.map D.int)]) := by
    have c := c8 ds n hn l3 (some (.lck N)) (some (.int f)) (some (.tup (one.map D.int))) (some (.tup (two.map D.int))) (some (.tup ((wishL ds n).map P2))) (some (.tup ((wishC n (wishL ds n)).map D.int))) (o8) (o9) (some (.tup ((fillL ds n).map P2))) (some (.tup ((blendL ds n).map D.int))) (some (.int ((metL ds n).length : Int))) (none) (none) (none) (none) (none) (none) (none) (none) (none) (none) (none)
    have i43 : gIx [.lst (ds.map D.int)] (.ref 0) (.int 43) = some (.int (ds.getD 43 0)) := ixd ds n hn l3 [] 43 (by omega)
    have ga : ∀ μ, gAdd μ (.new [D.int (ds.getD 43 0 % 4)]) (.new ((rowL ds n).map D.int)) = some (.new ((ds.getD 43 0 % 4 :: rowL ds n).map D.int)) := fun μ => by
      rw [add_nn (by simp [rowL]; omega)]
      rfl
    have m4 : ∀ μ, gModI μ (.int (ds.getD 43 0)) (.int 4) = some (.int (ds.getD 43 0 % 4)) := fun μ => mod_int (by decide)
    rw [← hrow] at ga
    generalize ds.getD 43 0 = z at *
    unfold law_s16
    simp [-abs_int, -List.map_set, c, ga, i43, m4]
  obtain ⟨o14, h_l2⟩ : ∃ o, law_l2 [some (.lck N), some (.int f), some (.int n), some (.tup (one.map D.int)), some (.tup (two.map D.int)), some (.ref 0), some (.tup ((wishL ds n).map P2)), some (.tup ((wishC n (wishL ds n)).map D.int)), o8, o9, some (.tup ((fillL ds n).map P2)), some (.tup ((blendL ds n).map D.int)), some (.int ((metL ds n).length : Int)), some (.tup (rowR.map D.int)), none, none, none, none, none, none, none, none, none, none] [.lst (ds.map D.int)] = some (.nx, [some (.lck N), some (.int f), some (.int n), some (.tup (one.map D.int)), some (.tup (two.map D.int)), some (.ref 0), some (.tup ((wishL ds n).map P2)), some (.tup ((wishC n (wishL ds n)).map D.int)), o8, o9, some (.tup ((fillL ds n).map P2)), some (.tup ((blendL ds n).map D.int)), some (.int ((metL ds n).length : Int)), some (.tup (rowR.map D.int)), o, none, none, none, none, none, none, none, none, none], [.lst (ds.map D.int)]) := by
    rw [hone, htwo, hrow]
    exact lp2 (ds.getD 43 0 % 4) b y (rowL ds n) r2 r1 (by simp [rowL]; omega) (by omega) (by omega) (fun x hx => q1 x (by rw [hone]; exact List.mem_cons_of_mem _ hx)) (some (.lck N)) (some (.int f)) (some (.int n)) (some (.ref 0)) (some (.tup ((wishL ds n).map P2))) (some (.tup ((wishC n (wishL ds n)).map D.int))) (o8) (o9) (some (.tup ((fillL ds n).map P2))) (some (.tup ((blendL ds n).map D.int))) (some (.int ((metL ds n).length : Int))) (none) (none) (none) (none) (none) (none) (none) (none) (none) (none) [.lst (ds.map D.int)]
  obtain ⟨fac, hfac⟩ : ∃ fac, fac = 1 + ds.getD 40 0 % 9 := ⟨_, rfl⟩
  have fac_b : 0 ≤ fac ∧ fac ≤ 60 := by omega
  have h_law_s18 : law_s18 [some (.lck N), some (.int f), some (.int n), some (.tup (one.map D.int)), some (.tup (two.map D.int)), some (.ref 0), some (.tup ((wishL ds n).map P2)), some (.tup ((wishC n (wishL ds n)).map D.int)), o8, o9, some (.tup ((fillL ds n).map P2)), some (.tup ((blendL ds n).map D.int)), some (.int ((metL ds n).length : Int)), some (.tup (rowR.map D.int)), o14, none, none, none, none, none, none, none, none, none] [.lst (ds.map D.int)] = some (.nx, [some (.lck N), some (.int f), some (.int n), some (.tup (one.map D.int)), some (.tup (two.map D.int)), some (.ref 0), some (.tup ((wishL ds n).map P2)), some (.tup ((wishC n (wishL ds n)).map D.int)), o8, o9, some (.tup ((fillL ds n).map P2)), some (.tup ((blendL ds n).map D.int)), some (.int ((metL ds n).length : Int)), some (.tup (rowR.map D.int)), o14, some (.int fac), none, none, none, none, none, none, none, none], [.lst (ds.map D.int)]) := by
    have i40 : gIx [.lst (ds.map D.int)] (.ref 0) (.int 40) = some (.int (ds.getD 40 0)) := ixd ds n hn l3 [] 40 (by omega)
    rw [hfac]
    have m9 : ∀ μ, gModI μ (.int (ds.getD 40 0)) (.int 9) = some (.int (ds.getD 40 0 % 9)) := fun μ => mod_int (by decide)
    generalize ds.getD 40 0 = z at *
    unfold law_s18
    simp [-abs_int, -List.map_set, i40, m9]
  obtain ⟨oth, hoth⟩ : ∃ oth, oth = one.map ((1 + ds.getD 41 0 % 3) * ·) := ⟨_, rfl⟩
  obtain ⟨lar, hlar⟩ : ∃ lar, lar = one.map (fac * ·) := ⟨_, rfl⟩
  have h_law_s19 : law_s19 [some (.lck N), some (.int f), some (.int n), some (.tup (one.map D.int)), some (.tup (two.map D.int)), some (.ref 0), some (.tup ((wishL ds n).map P2)), some (.tup ((wishC n (wishL ds n)).map D.int)), o8, o9, some (.tup ((fillL ds n).map P2)), some (.tup ((blendL ds n).map D.int)), some (.int ((metL ds n).length : Int)), some (.tup (rowR.map D.int)), o14, some (.int fac), none, none, none, none, none, none, none, none] [.lst (ds.map D.int)] = some (.nx, [some (.lck N), some (.int f), some (.int n), some (.tup (one.map D.int)), some (.tup (two.map D.int)), some (.ref 0), some (.tup ((wishL ds n).map P2)), some (.tup ((wishC n (wishL ds n)).map D.int)), o8, o9, some (.tup ((fillL ds n).map P2)), some (.tup ((blendL ds n).map D.int)), some (.int ((metL ds n).length : Int)), some (.tup (rowR.map D.int)), o14, some (.int fac), some (.tup (oth.map D.int)), none, none, none, none, none, none, none], [.lst (ds.map D.int)]) := by
    have c := c6 one q1 (by omega) ds l3 (some (.lck N)) (some (.int f)) (some (.int n)) (some (.tup (two.map D.int))) (some (.tup ((wishL ds n).map P2))) (some (.tup ((wishC n (wishL ds n)).map D.int))) (o8) (o9) (some (.tup ((fillL ds n).map P2))) (some (.tup ((blendL ds n).map D.int))) (some (.int ((metL ds n).length : Int))) (some (.tup (rowR.map D.int))) (o14) (some (.int fac)) (none) (none) (none) (none) (none) (none) (none) (none)
    rw [← hoth] at c
    unfold law_s19
    simp [-abs_int, -List.map_set, c]
  have h_law_s20 : law_s20 [some (.lck N), some (.int f), some (.int n), some (.tup (one.map D.int)), some (.tup (two.map D.int)), some (.ref 0), some (.tup ((wishL ds n).map P2)), some (.tup ((wishC n (wishL ds n)).map D.int)), o8, o9, some (.tup ((fillL ds n).map P2)), some (.tup ((blendL ds n).map D.int)), some (.int ((metL ds n).length : Int)), some (.tup (rowR.map D.int)), o14, some (.int fac), some (.tup (oth.map D.int)), none, none, none, none, none, none, none] [.lst (ds.map D.int)] = some (.nx, [some (.lck N), some (.int f), some (.int n), some (.tup (one.map D.int)), some (.tup (two.map D.int)), some (.ref 0), some (.tup ((wishL ds n).map P2)), some (.tup ((wishC n (wishL ds n)).map D.int)), o8, o9, some (.tup ((fillL ds n).map P2)), some (.tup ((blendL ds n).map D.int)), some (.int ((metL ds n).length : Int)), some (.tup (rowR.map D.int)), o14, some (.int fac), some (.tup (oth.map D.int)), some (.tup (lar.map D.int)), none, none, none, none, none, none], [.lst (ds.map D.int)]) := by
    have c := c5 one q1 (by omega) fac fac_b (some (.lck N)) (some (.int f)) (some (.int n)) (some (.tup (two.map D.int))) (some (.ref 0)) (some (.tup ((wishL ds n).map P2))) (some (.tup ((wishC n (wishL ds n)).map D.int))) (o8) (o9) (some (.tup ((fillL ds n).map P2))) (some (.tup ((blendL ds n).map D.int))) (some (.int ((metL ds n).length : Int))) (some (.tup (rowR.map D.int))) (o14) (some (.tup (oth.map D.int))) (none) (none) (none) (none) (none) (none) (none) [.lst (ds.map D.int)]
    rw [← hlar] at c
    unfold law_s20
    simp [-abs_int, -List.map_set, c]
  have lar_l : lar.length = n + 1 := by rw [hlar]; simp [one_l]
  have oth_l : oth.length = n + 1 := by rw [hoth]; simp [one_l]
  have mulb : ∀ (g : Int) (x : Int), 0 ≤ g ∧ g ≤ 60 → x ∈ one → (g * x).natAbs < 2 ^ 126 := fun g x hg hx => by
    rw [Int.natAbs_mul]
    have h1 := q1 x hx
    have h2 : g.natAbs ≤ 60 := by omega
    have h3 : g.natAbs * x.natAbs ≤ 60 * x.natAbs := Nat.mul_le_mul_right _ h2
    omega
  have lar_b : ∀ x ∈ lar, x.natAbs < 2 ^ 126 := fun x hx => by
    rw [hlar] at hx
    obtain ⟨z, hz, rfl⟩ := List.mem_map.mp hx
    exact mulb fac z fac_b hz
  have oth_b : ∀ x ∈ oth, x.natAbs < 2 ^ 126 := fun x hx => by
    rw [hoth] at hx
    obtain ⟨z, hz, rfl⟩ := List.mem_map.mp hx
    exact mulb _ z (by omega) hz
  have h_law_s21 : law_s21 [some (.lck N), some (.int f), some (.int n), some (.tup (one.map D.int)), some (.tup (two.map D.int)), some (.ref 0), some (.tup ((wishL ds n).map P2)), some (.tup ((wishC n (wishL ds n)).map D.int)), o8, o9, some (.tup ((fillL ds n).map P2)), some (.tup ((blendL ds n).map D.int)), some (.int ((metL ds n).length : Int)), some (.tup (rowR.map D.int)), o14, some (.int fac), some (.tup (oth.map D.int)), some (.tup (lar.map D.int)), none, none, none, none, none, none] [.lst (ds.map D.int)] = some (.nx, [some (.lck N), some (.int f), some (.int n), some (.tup (one.map D.int)), some (.tup (two.map D.int)), some (.ref 0), some (.tup ((wishL ds n).map P2)), some (.tup ((wishC n (wishL ds n)).map D.int)), o8, o9, some (.tup ((fillL ds n).map P2)), some (.tup ((blendL ds n).map D.int)), some (.int ((metL ds n).length : Int)), some (.tup (rowR.map D.int)), o14, some (.int fac), some (.tup (oth.map D.int)), some (.tup (lar.map D.int)), some (.ref 1), none, none, none, none, none], [.lst (ds.map D.int), .lst (lar.map D.int)]) := by
    have c := c4 lar (by omega) (some (.lck N)) (some (.int f)) (some (.int n)) (some (.tup (one.map D.int))) (some (.tup (two.map D.int))) (some (.ref 0)) (some (.tup ((wishL ds n).map P2))) (some (.tup ((wishC n (wishL ds n)).map D.int))) (o8) (o9) (some (.tup ((fillL ds n).map P2))) (some (.tup ((blendL ds n).map D.int))) (some (.int ((metL ds n).length : Int))) (some (.tup (rowR.map D.int))) (o14) (some (.int fac)) (some (.tup (oth.map D.int))) (none) (none) (none) (none) (none) (none) [.lst (ds.map D.int)]
    unfold law_s21
    simp [-abs_int, -List.map_set, c]
  obtain ⟨i, hi⟩ : ∃ i : Nat, (i : Int) = ds.getD 42 0 % (n + 1) := ⟨(ds.getD 42 0 % (n + 1)).toNat, Int.toNat_of_nonneg (Int.emod_nonneg _ (by omega))⟩
  have hi2 : i < n + 1 := by
    have : ds.getD 42 0 % ((n : Int) + 1) < (n : Int) + 1 := Int.emod_lt_of_pos _ (by omega)
    omega
  obtain ⟨spo, hspo⟩ : ∃ spo, spo = lar.set i (lar.getD i 0 + 1 - 2 * (ds.getD 39 0 % 2)) := ⟨_, rfl⟩
  have spo_l : spo.length = n + 1 := by rw [hspo]; simp [lar_l]
  have spo_b : ∀ x ∈ spo, x.natAbs < 2 ^ 127 := fun x hx => by
    rw [hspo] at hx
    rcases List.mem_or_eq_of_mem_set hx with q | q
    · have := lar_b x q; omega
    · have hm : lar.getD i 0 ∈ lar := by
        have : lar.getD i 0 = lar[i]'(by omega) := by simp [List.getD, show i < lar.length by omega]
        rw [this]
        exact List.getElem_mem _
      have := lar_b _ hm
      omega
  have h_law_s22 : law_s22 [some (.lck N), some (.int f), some (.int n), some (.tup (one.map D.int)), some (.tup (two.map D.int)), some (.ref 0), some (.tup ((wishL ds n).map P2)), some (.tup ((wishC n (wishL ds n)).map D.int)), o8, o9, some (.tup ((fillL ds n).map P2)), some (.tup ((blendL ds n).map D.int)), some (.int ((metL ds n).length : Int)), some (.tup (rowR.map D.int)), o14, some (.int fac), some (.tup (oth.map D.int)), some (.tup (lar.map D.int)), some (.ref 1), none, none, none, none, none] [.lst (ds.map D.int), .lst (lar.map D.int)] = some (.nx, [some (.lck N), some (.int f), some (.int n), some (.tup (one.map D.int)), some (.tup (two.map D.int)), some (.ref 0), some (.tup ((wishL ds n).map P2)), some (.tup ((wishC n (wishL ds n)).map D.int)), o8, o9, some (.tup ((fillL ds n).map P2)), some (.tup ((blendL ds n).map D.int)), some (.int ((metL ds n).length : Int)), some (.tup (rowR.map D.int)), o14, some (.int fac), some (.tup (oth.map D.int)), some (.tup (lar.map D.int)), some (.ref 1), none, none, none, none, none], [.lst (ds.map D.int), .lst (spo.map D.int)]) := by
    have i42 : gIx [.lst (ds.map D.int), .lst (lar.map D.int)] (.ref 0) (.int 42) = some (.int (ds.getD 42 0)) := ixd ds n hn l3 _ 42 (by omega)
    have i39 : gIx [.lst (ds.map D.int), .lst (lar.map D.int)] (.ref 0) (.int 39) = some (.int (ds.getD 39 0)) := ixd ds n hn l3 _ 39 (by omega)
    have hlen : gLen [.lst (ds.map D.int), .lst (lar.map D.int)] [.ref 1] = some (.int (n + 1)) := by
      rw [len_any (ds := lar.map D.int) rfl]
      simp [lar_l]
    have mm : ∀ μ, gModI μ (.int (ds.getD 42 0)) (.int (n + 1)) = some (.int i) := fun μ => by rw [DL.mod_int (by omega), hi]
    have il : gIx [.lst (ds.map D.int), .lst (lar.map D.int)] (.ref 1) (.int i) = some (.int (lar.getD i 0)) := ix_int (.inr rfl) (by omega) (by omega)
    have m2 : ∀ μ, gModI μ (.int (ds.getD 39 0)) (.int 2) = some (.int (ds.getD 39 0 % 2)) := fun μ => mod_int (by decide)
    have mu : ∀ μ, gMul μ (.int 2) (.int (ds.getD 39 0 % 2)) = some (.int (2 * (ds.getD 39 0 % 2))) := fun μ => mul_small (by omega)
    have hset : setM [.lst (ds.map D.int), .lst (lar.map D.int)] (.ref 1) (.int i) (.int (lar.getD i 0 + 1 - 2 * (ds.getD 39 0 % 2))) = some [.lst (ds.map D.int), .lst (spo.map D.int)] := by
      rw [set_ref (ds := lar.map D.int) rfl (by simp; omega) rfl, set_ints, ← hspo]
      rfl
    generalize ds.getD 39 0 = z39 at *
    generalize ds.getD 42 0 = z42 at *
    generalize lar.getD i 0 = zi at *
    unfold law_s22
    simp [-abs_int, -List.map_set, i42, i39, m2, mm, il, hlen, mu, hset]
  obtain ⟨cl, hcl⟩ : ∃ cl, cl = wishC n (wishL ds n) := ⟨_, rfl⟩
  have ts : ∀ μ : Mem, μ[1]? = some (.lst (spo.map D.int)) → gTuple μ [.ref 1] = some (.tup (spo.map D.int)) := fun μ h => tup_any (by rw [lsA_ref, isl_ref, h])
  obtain ⟨p6, hp6⟩ : ∃ p6 : List (List Int × List Int), p6 = [(lar, oth), (oth, lar), (spo, oth), (oth, spo), (one, two), (cl, one)] := ⟨_, rfl⟩
  have h_law_s23 : law_s23 [some (.lck N), some (.int f), some (.int n), some (.tup (one.map D.int)), some (.tup (two.map D.int)), some (.ref 0), some (.tup ((wishL ds n).map P2)), some (.tup ((wishC n (wishL ds n)).map D.int)), o8, o9, some (.tup ((fillL ds n).map P2)), some (.tup ((blendL ds n).map D.int)), some (.int ((metL ds n).length : Int)), some (.tup (rowR.map D.int)), o14, some (.int fac), some (.tup (oth.map D.int)), some (.tup (lar.map D.int)), some (.ref 1), none, none, none, none, none] [.lst (ds.map D.int), .lst (spo.map D.int)] = some (.nx, [some (.lck N), some (.int f), some (.int n), some (.tup (one.map D.int)), some (.tup (two.map D.int)), some (.ref 0), some (.tup ((wishL ds n).map P2)), some (.tup ((wishC n (wishL ds n)).map D.int)), o8, o9, some (.tup ((fillL ds n).map P2)), some (.tup ((blendL ds n).map D.int)), some (.int ((metL ds n).length : Int)), some (.tup (rowR.map D.int)), o14, some (.int fac), some (.tup (oth.map D.int)), some (.tup (lar.map D.int)), some (.ref 1), some (.ref 2), none, none, none, none], [.lst (ds.map D.int), .lst (spo.map D.int), .lst (p6.map PL)]) := by
    rw [hp6]
    rw [hcl]
    unfold law_s23
    simp [-abs_int, -List.map_set, ts]
  obtain ⟨neg, hneg⟩ : ∃ neg, neg = one.map (fun x => 0 - x) := ⟨_, rfl⟩
  obtain ⟨zer, hzer⟩ : ∃ zer, zer = one.map (fun _ => (0 : Int)) := ⟨_, rfl⟩
  obtain ⟨p8, hp8⟩ : ∃ p8 : List (List Int × List Int), p8 = p6 ++ [(neg, oth), (zer, oth)] := ⟨_, rfl⟩
  obtain ⟨p9, hp9⟩ : ∃ p9 : List (List Int × List Int), p9 = p8 ++ [(oth, zer)] := ⟨_, rfl⟩
  have p6_l : p6.length = 6 := by rw [hp6]; rfl
  have p8_l : p8.length = 8 := by rw [hp8]; simp [p6_l]
  have h_law_s24 : law_s24 [some (.lck N), some (.int f), some (.int n), some (.tup (one.map D.int)), some (.tup (two.map D.int)), some (.ref 0), some (.tup ((wishL ds n).map P2)), some (.tup ((wishC n (wishL ds n)).map D.int)), o8, o9, some (.tup ((fillL ds n).map P2)), some (.tup ((blendL ds n).map D.int)), some (.int ((metL ds n).length : Int)), some (.tup (rowR.map D.int)), o14, some (.int fac), some (.tup (oth.map D.int)), some (.tup (lar.map D.int)), some (.ref 1), some (.ref 2), none, none, none, none] [.lst (ds.map D.int), .lst (spo.map D.int), .lst (p6.map PL)] = some (.nx, [some (.lck N), some (.int f), some (.int n), some (.tup (one.map D.int)), some (.tup (two.map D.int)), some (.ref 0), some (.tup ((wishL ds n).map P2)), some (.tup ((wishC n (wishL ds n)).map D.int)), o8, o9, some (.tup ((fillL ds n).map P2)), some (.tup ((blendL ds n).map D.int)), some (.int ((metL ds n).length : Int)), some (.tup (rowR.map D.int)), o14, some (.int fac), some (.tup (oth.map D.int)), some (.tup (lar.map D.int)), some (.ref 1), some (.ref 3), none, none, none, none], [.lst (ds.map D.int), .lst (spo.map D.int), .lst (p6.map PL), .lst (p8.map PL)]) := by
    have d3 := LK.c3 one q1 (by omega) (some (.lck N)) (some (.int f)) (some (.int n)) (some (.tup (two.map D.int))) (some (.ref 0)) (some (.tup ((wishL ds n).map P2))) (some (.tup ((wishC n (wishL ds n)).map D.int))) (o8) (o9) (some (.tup ((fillL ds n).map P2))) (some (.tup ((blendL ds n).map D.int))) (some (.int ((metL ds n).length : Int))) (some (.tup (rowR.map D.int))) (o14) (some (.int fac)) (some (.tup (oth.map D.int))) (some (.tup (lar.map D.int))) (some (.ref 1)) (some (.ref 2)) (none) (none) (none) (none) [.lst (ds.map D.int), .lst (spo.map D.int), .lst (p6.map PL)]
    have d2 := LK.c2 one q1 (by omega) (some (.lck N)) (some (.int f)) (some (.int n)) (some (.tup (two.map D.int))) (some (.ref 0)) (some (.tup ((wishL ds n).map P2))) (some (.tup ((wishC n (wishL ds n)).map D.int))) (o8) (o9) (some (.tup ((fillL ds n).map P2))) (some (.tup ((blendL ds n).map D.int))) (some (.int ((metL ds n).length : Int))) (some (.tup (rowR.map D.int))) (o14) (some (.int fac)) (some (.tup (oth.map D.int))) (some (.tup (lar.map D.int))) (some (.ref 1)) (some (.ref 2)) (none) (none) (none) (none) [.lst (ds.map D.int), .lst (spo.map D.int), .lst (p6.map PL)]
    rw [← hneg] at d3
    rw [← hzer] at d2
    have ga : gAdd [.lst (ds.map D.int), .lst (spo.map D.int), .lst (p6.map PL)] (.ref 2) (.new [PL (neg, oth), PL (zer, oth)]) = some (.new (p8.map PL)) := by
      rw [add_new (ds := p6.map PL) (es := [PL (neg, oth), PL (zer, oth)]) rfl rfl (by simp [p6_l]), hp8, List.map_append]
      rfl
    unfold law_s24
    simp [-abs_int, -List.map_set, d3, d2, ga]
  have h_law_s25 : law_s25 [some (.lck N), some (.int f), some (.int n), some (.tup (one.map D.int)), some (.tup (two.map D.int)), some (.ref 0), some (.tup ((wishL ds n).map P2)), some (.tup ((wishC n (wishL ds n)).map D.int)), o8, o9, some (.tup ((fillL ds n).map P2)), some (.tup ((blendL ds n).map D.int)), some (.int ((metL ds n).length : Int)), some (.tup (rowR.map D.int)), o14, some (.int fac), some (.tup (oth.map D.int)), some (.tup (lar.map D.int)), some (.ref 1), some (.ref 3), none, none, none, none] [.lst (ds.map D.int), .lst (spo.map D.int), .lst (p6.map PL), .lst (p8.map PL)] = some (.nx, [some (.lck N), some (.int f), some (.int n), some (.tup (one.map D.int)), some (.tup (two.map D.int)), some (.ref 0), some (.tup ((wishL ds n).map P2)), some (.tup ((wishC n (wishL ds n)).map D.int)), o8, o9, some (.tup ((fillL ds n).map P2)), some (.tup ((blendL ds n).map D.int)), some (.int ((metL ds n).length : Int)), some (.tup (rowR.map D.int)), o14, some (.int fac), some (.tup (oth.map D.int)), some (.tup (lar.map D.int)), some (.ref 1), some (.ref 4), none, none, none, none], [.lst (ds.map D.int), .lst (spo.map D.int), .lst (p6.map PL), .lst (p8.map PL), .lst (p9.map PL)]) := by
    have d1 := LK.c1 one q1 (by omega) (some (.lck N)) (some (.int f)) (some (.int n)) (some (.tup (two.map D.int))) (some (.ref 0)) (some (.tup ((wishL ds n).map P2))) (some (.tup ((wishC n (wishL ds n)).map D.int))) (o8) (o9) (some (.tup ((fillL ds n).map P2))) (some (.tup ((blendL ds n).map D.int))) (some (.int ((metL ds n).length : Int))) (some (.tup (rowR.map D.int))) (o14) (some (.int fac)) (some (.tup (oth.map D.int))) (some (.tup (lar.map D.int))) (some (.ref 1)) (some (.ref 3)) (none) (none) (none) (none) [.lst (ds.map D.int), .lst (spo.map D.int), .lst (p6.map PL), .lst (p8.map PL)]
    rw [← hzer] at d1
    have ga : gAdd [.lst (ds.map D.int), .lst (spo.map D.int), .lst (p6.map PL), .lst (p8.map PL)] (.ref 3) (.new [PL (oth, zer)]) = some (.new (p9.map PL)) := by
      rw [add_new (ds := p8.map PL) (es := [PL (oth, zer)]) rfl rfl (by simp [p8_l]), hp9, List.map_append]
      rfl
    unfold law_s25
    simp [-abs_int, -List.map_set, d1, ga]
  have neg_b : ∀ x ∈ neg, x.natAbs < 2 ^ 127 := fun x hx => by
    rw [hneg] at hx
    obtain ⟨z, hz, rfl⟩ := List.mem_map.mp hx
    have := q1 z hz
    omega
  have zer_b : ∀ x ∈ zer, x.natAbs < 2 ^ 127 := fun x hx => by
    rw [hzer] at hx
    obtain ⟨z, hz, rfl⟩ := List.mem_map.mp hx
    decide
  have oks : ∀ p ∈ p9, Ok2 n p := by
    have ol := row_of lar_b
    have oo := row_of oth_b
    have os := row_of spo_b
    have oneg := row_of neg_b
    have oz := row_of zer_b
    have oc : Row cl := by rw [hcl]; exact wishC_row ds n hn
    have lc : cl.length = n + 1 := by rw [hcl]; exact wishC_len ds n
    have ln : neg.length = n + 1 := by rw [hneg]; simp [one_l]
    have lz : zer.length = n + 1 := by rw [hzer]; simp [one_l]
    rw [hp9, hp8, hp6]
    intro p hp
    simp only [List.cons_append, List.nil_append, List.mem_cons, List.not_mem_nil, or_false] at hp
    rcases hp with rfl | rfl | rfl | rfl | rfl | rfl | rfl | rfl | rfl
    · exact ⟨ol, oo, lar_l, oth_l⟩
    · exact ⟨oo, ol, oth_l, lar_l⟩
    · exact ⟨os, oo, spo_l, oth_l⟩
    · exact ⟨oo, os, oth_l, spo_l⟩
    · exact ⟨one_r, two_r, one_l, two_l⟩
    · exact ⟨oc, one_r, lc, one_l⟩
    · exact ⟨oneg, oo, ln, oth_l⟩
    · exact ⟨oz, oo, lz, oth_l⟩
    · exact ⟨oo, oz, oth_l, lz⟩
  obtain ⟨o20, h_l1⟩ := lp1 n hn p9 oks (some (.lck N)) (some (.int f)) (some (.int n)) (some (.tup (one.map D.int))) (some (.tup (two.map D.int))) (some (.ref 0)) (some (.tup ((wishL ds n).map P2))) (some (.tup ((wishC n (wishL ds n)).map D.int))) (o8) (o9) (some (.tup ((fillL ds n).map P2))) (some (.tup ((blendL ds n).map D.int))) (some (.int ((metL ds n).length : Int))) (some (.tup (rowR.map D.int))) (o14) (some (.int fac)) (some (.tup (oth.map D.int))) (some (.tup (lar.map D.int))) (some (.ref 1)) (none) (none) (none) (none) [.lst (ds.map D.int), .lst (spo.map D.int), .lst (p6.map PL), .lst (p8.map PL), .lst (p9.map PL)] 4 rfl
  refine ⟨[some (.lck N), some (.int f), some (.int n), some (.tup (one.map D.int)), some (.tup (two.map D.int)), some (.ref 0), some (.tup ((wishL ds n).map P2)), some (.tup ((wishC n (wishL ds n)).map D.int)), o8, o9, some (.tup ((fillL ds n).map P2)), some (.tup ((blendL ds n).map D.int)), some (.int ((metL ds n).length : Int)), some (.tup (rowR.map D.int)), o14, some (.int fac), some (.tup (oth.map D.int)), some (.tup (lar.map D.int)), some (.ref 1), some (.ref 4), o20, none, none, none], [.lst (ds.map D.int), .lst (spo.map D.int), .lst (p6.map PL), .lst (p8.map PL), .lst (p9.map PL)], ?_⟩
  unfold b_law
  rw [sSeq_of h_law_s1, sSeq_of h_law_s2, sSeq_of h_law_s3, sSeq_of h_law_s4, sSeq_of h_law_s5, sSeq_of h_law_s6, sSeq_of h_law_s7, sSeq_of h_law_s8, sSeq_of h_law_s9, sSeq_of h_l4, sSeq_of h_law_s11, sSeq_of h_law_s12, sSeq_of h_law_s13, sSeq_of h_law_s14, sSeq_of h_law_s15, sSeq_of h_law_s16, sSeq_of h_l2, sSeq_of h_law_s18, sSeq_of h_law_s19, sSeq_of h_law_s20, sSeq_of h_law_s21, sSeq_of h_law_s22, sSeq_of h_law_s23, sSeq_of h_law_s24, sSeq_of h_law_s25, sSeq_of h_l1]
  rfl
end
theorem law_true (ns : List Int) (h : ns.length ≤ 63) : m_law [.lck (ns.map D.int)] = some (.ok (.bl true)) := by
  obtain ⟨c0, e0⟩ := cell_eq ns 0 h
  obtain ⟨c1, e1⟩ := cell_eq ns 1 h
  obtain ⟨c2, e2⟩ := cell_eq ns 2 h
  obtain ⟨c3, e3⟩ := cell_eq ns 3 h
  obtain ⟨f, f0⟩ : ∃ f : Int, ∀ μ, gAbs μ [.int c0] = some (.int f) := ⟨_, fun _ => rfl⟩
  obtain ⟨a1, f1⟩ : ∃ f : Int, ∀ μ, gAbs μ [.int c1] = some (.int f) := ⟨_, fun _ => rfl⟩
  obtain ⟨a2, f2⟩ : ∃ f : Int, ∀ μ, gAbs μ [.int c2] = some (.int f) := ⟨_, fun _ => rfl⟩
  obtain ⟨a3, f3⟩ : ∃ f : Int, ∀ μ, gAbs μ [.int c3] = some (.int f) := ⟨_, fun _ => rfl⟩
  obtain ⟨n, hn, hnm⟩ : ∃ n : Nat, n ≤ 40 ∧ (if f / 41 % 3 = 0 then f % 41 else f / 41 % 5) = n := by
    by_cases q : f / 41 % 3 = 0
    · exact ⟨(f % 41).toNat, by omega, by rw [if_pos q]; omega⟩
    · exact ⟨(f / 41 % 5).toNat, by omega, by rw [if_neg q]; omega⟩
  obtain ⟨one, k1, l1, q1⟩ := claim_eq a1 n hn
  obtain ⟨two, k2, l2, q2⟩ := claim_eq a2 n hn
  obtain ⟨ds, k3, l3, _⟩ := draws_eq a3 44 (by decide)
  cases one with
  | nil => simp at l1
  | cons y r1 =>
    cases two with
    | nil => simp at l2
    | cons b r2 =>
      obtain ⟨sd, μ, hb⟩ := law_core (ns.map D.int) c0 c1 c2 c3 f a1 a2 a3 n y b r1 r2 ds (fun μ => argD_lck (okI ns)) e0 e1 e2 e3 f0 f1 f2 f3 hn hnm k1 (by simpa using l1) q1 k2 (by simpa using l2) q2 k3 l3
      unfold m_law
      rw [runF_def]
      have e : ([D.lck (ns.map D.int)].map some ++ List.replicate (24 - [D.lck (ns.map D.int)].length) none : Sl) = [some (.lck (ns.map D.int)), none, none, none, none, none, none, none, none, none, none, none, none, none, none, none, none, none, none, none, none, none, none, none] := rfl
      rw [e, hb]
end LK

open PySem PySem.W PySem.Calls PyProof.Rows
theorem PySem.Challenge.cw_liftedliars_k07_claims_and_blends_holds : PySem.Challenge.rw_liftedliars_k07_claims_and_blends.Holds := by
  w_on; o_law
  refine HandSHeadRun.head_any (r := OpenLaw.row PySem.Challenge.rw_liftedliars_k07_claims_and_blends) (q := view (OpenLaw.row PySem.Challenge.rw_liftedliars_k07_claims_and_blends).prog [21]) (H := LK.hk) (ob := LK.ob) (M := 900) (loose := LK.loose) (d := HandSHeadRun.topDef (OpenLaw.row PySem.Challenge.rw_liftedliars_k07_claims_and_blends).prog 21) (kwd := []) LK.ob_eq
    (by kernel_rfl) (fun s => by kernel_rfl) LK.run (by kernel_rfl) (by kernel_rfl) (by kernel_rfl) (by rfl) (by first | assumption | decide +kernel) (by decide +kernel) ⟨rfl, rfl, rfl, rfl, rfl, by decide +kernel⟩ ?hw ?hc
  case hw => w_witness2
  case hc =>
    refine DL.law_end (l := PySem.Challenge.rw_liftedliars_k07_claims_and_blends) (n := 63) (lv := 5) (par := "script") rfl (by decide) (by kernel_rfl) ⟨rfl, by decide, by decide⟩ ?F
    intro w mg fa h Y G hmg0
    obtain ⟨K, KX, c⟩ := Y
    have hmg : mg ("law" : PySem.Str) = some (.ref fa) := by
      have e : (HandSHeadRun.topDef (OpenLaw.row PySem.Challenge.rw_liftedliars_k07_claims_and_blends).prog 21).name = ("law" : PySem.Str) := by kernel_rfl
      rw [← e]
      exact hmg0
    obtain ⟨fd, hb, hF⟩ := LK.facts (P := (PySem.Challenge.rw_liftedliars_k07_claims_and_blends).prog) (w := w) KX G hmg c
    exact ⟨K, fd, LK.m_law, KX, hb, LK.law_true, hF⟩
