import PyProof.Rows.All
import Wide.All
import OpenK.AllK
import Wide.FinOn
import HandS.ForMost
import HandS.ForExc
import HandS.CallSlots
import HandS.Wide
import HandS.WideBits
import HandS.IsInst
import HandS.HeadHook4
import HandS.ExcCtx
import HandS.HotCalls
import HandS.ExcInit
import HandS.ExcInitHot
import HandS.RaiseFrom
import HandS.Small
import HandS.ExcField
import HandS.ExcIs
import HandS.Zip
import HandS.SetFor
import HandS.Conv
import HandS.NoneIn
import HandS.ListItems
import HandS.Flow
import HandS.RevRange
import HandS.Rev
import HandS.Style
import HandS.Strs
import HandS.DictTup
import HandS.Defaults
import HandS.FStr
import HandS.RaiseMore
import HandS.SuiteRaise
import HandS.MakeKw
import HandS.HeadEnd
import HandS.HeadWalk
import HandS.Head0
import HandS.Head1
import HandS.Head2
import PyProof.ReprNest
import PySem.Challenge.RW_loafshares_k59_scales_refused
section
set_option Elab.async false
set_option linter.all false
set_option autoImplicit false
set_option maxRecDepth 100000
set_option maxHeartbeats 1000000
/-! A layer of values over the abstract heap: what a piece of text gives, as a function of plain data. -/
namespace DL
open PySem PySem.Spec PyProof.Rows L2
inductive D where
  | non | bl (b : Bool) | int (i : Int) | str (x : Str) | ref (a : Addr) | ty (n : String)
  | own (n : Nat) | cls (c : Str)
  | tup (l : List D) | lst (l : List D) | frl (l : List D)
  | dK (ks : List Key) (l : List D) | dT (ks : List (List Key)) (l : List D)
  | obj (c : Str) (fs : List Str) (l : List D)
  | err (c : Str) (o : Bool) (fs : List Str) (l : List D)
/-- the written part; the exception that is handled -/
structure Gx where
  K : PySem.W.Frag
  ea : Option (Addr × Option Addr) := none
abbrev gx (X : Cx) (ea : Option (Addr × Option Addr)) : Gx := ⟨X.K, ea⟩
abbrev Env := List (Option D)
abbrev Sto := List (Option D)
/-- a list that no call changes: locked, or of the written part -/
def SqF (K : PySem.W.Frag) (H : Hp) (a : Addr) (vs : List V) : Prop := (∃ o, H a = some (.frz o (.lst vs))) ∨
  ∃ (o : Obj) (its : Array Value) (n : Nat), K.lookup a = some o ∧ o.cls = .type "list" ∧ o.dict = none ∧ o.data = .seq its n ∧ its.size ≤ sizeLine ∧ Vals vs its.toList
theorem SqF.l {K : PySem.W.Frag} {H : Hp} {a : Addr} {vs : List V} (h : SqF K H a vs) : SqL K H a vs := by
  rcases h with h | h
  · exact .inl (.inr h)
  · exact .inr h
mutual
def Rep (K : Gx) (L : List Addr) (M : Addr → Prop) (H : Hp) : D → V → Prop
  | .non, v => v = .non
  | .bl b, v => v = .bl b
  | .int i, v => v = .int i
  | .str x, v => v = .str x
  | .ref a, v => v = .ref a
  | .ty n, v => v = .ty n
  | .own n, v => ∃ a, v = .ref a ∧ L[n]? = some a
  | .cls c, v => v = .ref (He.ga K.K c)
  | .err _ o fs l, v => ∃ a od, K.ea = some (a, od) ∧ v = .ref a ∧ (o = false → od = none ∧ l = []) ∧ (o = true → ∃ d vs, od = some d ∧ ¬ M d ∧ H d = some (.xd (fs.zip vs)) ∧ Reps K L M H l vs ∧ fs.length = vs.length)
  | .tup l, v => ∃ a vs, v = .ref a ∧ SqT K.K H a vs ∧ Reps K L M H l vs
  | .lst l, v => ∃ a vs, v = .ref a ∧ ¬ M a ∧ H a = some (.lst vs) ∧ Reps K L M H l vs
  | .frl l, v => ∃ a vs, v = .ref a ∧ SqF K.K H a vs ∧ Reps K L M H l vs
  | .dK ks l, v => ∃ a vs, v = .ref a ∧ ¬ M a ∧ Rd H a (.dK (ks.zip vs)) ∧ Reps K L M H l vs ∧ ks.length = vs.length
  | .dT ks l, v => ∃ a vs, v = .ref a ∧ ¬ M a ∧ H a = some (.dT (ks.zip vs)) ∧ Reps K L M H l vs ∧ ks.length = vs.length
  | .obj c fs l, v => ∃ a dx vs, v = .ref a ∧ ¬ M a ∧ H a = some (.ins (He.ga K.K c) dx (fs.zip vs)) ∧ Reps K L M H l vs ∧ fs.length = vs.length
def Reps (K : Gx) (L : List Addr) (M : Addr → Prop) (H : Hp) : List D → List V → Prop
  | [], vs => vs = []
  | d :: ds, vs => ∃ v r, vs = v :: r ∧ Rep K L M H d v ∧ Reps K L M H ds r
end
/-- what stands at the address of an object of one's own -/
def Cont (K : Gx) (L : List Addr) (M : Addr → Prop) (H : Hp) : D → Addr → Prop
  | .lst l, a => ∃ vs, H a = some (.lst vs) ∧ Reps K L M H l vs
  | .dK ks l, a => ∃ vs, H a = some (.dK (ks.zip vs)) ∧ Reps K L M H l vs ∧ ks.length = vs.length
  | .dT ks l, a => ∃ vs, H a = some (.dT (ks.zip vs)) ∧ Reps K L M H l vs ∧ ks.length = vs.length
  | .obj c fs l, a => ∃ dx vs, H a = some (.ins (He.ga K.K c) dx (fs.zip vs)) ∧ Reps K L M H l vs ∧ fs.length = vs.length
  | _, _ => False
def Live (L : List Addr) (μ : Sto) (a : Addr) : Prop := ∃ (n : Nat) (d : D), L[n]? = some a ∧ μ[n]? = some (some d)
def Mv (M0 : Addr → Prop) (L : List Addr) (μ : Sto) (a : Addr) : Prop := Live L μ a ∨ M0 a
structure SR (K : Gx) (M0 : Addr → Prop) (L : List Addr) (μ : Sto) (H : Hp) : Prop where
  len : L.length = μ.length
  nd : L.Nodup
  tr : ∀ a ∈ L, H a ≠ none ∧ ¬ M0 a
  trM : ∀ a, M0 a → H a ≠ none
  cont : ∀ (n : Nat) (d : D), μ[n]? = some (some d) → ∃ a, L[n]? = some a ∧ Cont K L (Mv M0 L μ) H d a
structure Ch (L : List Addr) (μ : Sto) (H : Hp) (L' : List Addr) (μ' : Sto) (H' : Hp) : Prop where
  pre : ∃ t, L' = L ++ t ∧ ∀ a ∈ t, H a = none
  frame : ∀ a o, ¬ Live L μ a → H a = some o → H' a = some o
  tups : ∀ a vs, H a = some (.tup vs) → H' a = some (.tup vs)
  frzs : ∀ a o u, H a = some (.frz o u) → H' a = some (.frz o u)
  dead : ∀ n : Nat, n < L.length → μ[n]? = some none → μ'[n]? = some none
section
variable {K : Gx} {M0 : Addr → Prop} {L L' L2 : List Addr} {M M' : Addr → Prop} {H H' H2 : Hp} {μ μ' μ2 : Sto}
theorem Ch.refl (L : List Addr) (μ : Sto) (H : Hp) : Ch L μ H L μ H :=
  ⟨⟨[], by simp, fun _ h => nomatch h⟩, fun _ _ _ h => h, fun _ _ h => h, fun _ _ _ h => h, fun _ _ h => h⟩
theorem Ch.back (len : L.length = μ.length) (c : Ch L μ H L' μ' H') {a : Addr} (l : Live L' μ' a) (h : H a ≠ none) : Live L μ a := by
  obtain ⟨n, d, e1, e2⟩ := l
  obtain ⟨t, rfl, fr⟩ := c.pre
  by_cases hn : n < L.length
  · rw [List.getElem?_append_left hn] at e1
    cases e : μ[n]? with
    | none =>
      have := List.getElem?_eq_none_iff.mp e
      omega
    | some x =>
      cases x with
      | none =>
        rw [c.dead n hn e] at e2
        cases e2
      | some d' => exact ⟨n, d', e1, e⟩
  · rw [List.getElem?_append_right (by omega)] at e1
    exact absurd (fr a (List.mem_of_getElem? e1)) h
theorem Ch.mvback (len : L.length = μ.length) (c : Ch L μ H L' μ' H') {a : Addr} (l : Mv M0 L' μ' a) (h : H a ≠ none) : Mv M0 L μ a := by
  rcases l with l | l
  · exact .inl (c.back len l h)
  · exact .inr l
theorem Ch.len (c : Ch L μ H L' μ' H') : L.length ≤ L'.length := by
  obtain ⟨t, rfl, _⟩ := c.pre
  simp
theorem Ch.trans (len : L.length = μ.length) (trL : ∀ a, Live L μ a → H' a ≠ none) (a : Ch L μ H L' μ' H') (b : Ch L' μ' H' L2 μ2 H2) : Ch L μ H L2 μ2 H2 := by
  refine ⟨?_, fun c o nl e => ?_, fun c vs e => b.tups c vs (a.tups c vs e), fun c o u e => b.frzs c o u (a.frzs c o u e), fun n hn e => b.dead n (Nat.lt_of_lt_of_le hn a.len) (a.dead n hn e)⟩
  · obtain ⟨t, rfl, f1⟩ := a.pre
    obtain ⟨t', rfl, f2⟩ := b.pre
    refine ⟨t ++ t', by simp, fun c hc => ?_⟩
    rcases List.mem_append.mp hc with h | h
    · exact f1 c h
    · have z := f2 c h
      cases q : H c with
      | none => rfl
      | some o =>
        by_cases nl : Live L μ c
        · exact absurd z (trL c nl)
        · rw [a.frame c o nl q] at z
          cases z
  · refine b.frame c o (fun l => nl (a.back len l ?_)) (a.frame c o nl e)
    rw [e]
    exact fun z => nomatch z
theorem rd_of_frame {a : Addr} {u : HO} (fr : H a ≠ none → ∀ o, H a = some o → H' a = some o) (h : Rd H a u) : Rd H' a u := by
  rcases h with h | ⟨o, h⟩
  · exact .inl (fr (by rw [h]; exact fun z => nomatch z) _ h)
  · exact .inr ⟨o, fr (by rw [h]; exact fun z => nomatch z) _ h⟩
theorem rd_some {a : Addr} {u : HO} (h : Rd H a u) : H a ≠ none := by
  rcases h with h | ⟨o, h⟩
  · rw [h]; exact fun z => nomatch z
  · rw [h]; exact fun z => nomatch z
theorem sqt_mono {a : Addr} {vs : List V} (tp : ∀ a vs, H a = some (.tup vs) → H' a = some (.tup vs)) (fz : ∀ a o u, H a = some (.frz o u) → H' a = some (.frz o u)) (h : SqT K.K H a vs) : SqT K.K H' a vs := by
  rcases h with (h | ⟨o, h⟩) | h
  · exact .inl (.inl (tp _ _ h))
  · exact .inl (.inr ⟨o, fz _ _ _ h⟩)
  · exact .inr h
theorem sqf_mono {a : Addr} {vs : List V} (fz : ∀ a o u, H a = some (.frz o u) → H' a = some (.frz o u)) (h : SqF K.K H a vs) : SqF K.K H' a vs := by
  rcases h with ⟨o, h⟩ | h
  · exact .inl ⟨o, fz _ _ _ h⟩
  · exact .inr h
section
variable (pre : ∃ t, L' = L ++ t) (hM : ∀ a, H a ≠ none → M' a → M a) (fr : ∀ a o, ¬ M a → H a = some o → H' a = some o) (tp : ∀ a vs, H a = some (.tup vs) → H' a = some (.tup vs)) (fz : ∀ a o u, H a = some (.frz o u) → H' a = some (.frz o u))
include pre hM fr tp fz
mutual
theorem Rep.mono0 : ∀ (d : D) (v : V), Rep K L M H d v → Rep K L' M' H' d v
  | .non, _, h => h
  | .bl _, _, h => h
  | .int _, _, h => h
  | .str _, _, h => h
  | .ref _, _, h => h
  | .ty _, _, h => h
  | .cls _, _, h => h
  | .err c o fs l, v, h => by
    obtain ⟨a, od, e1, e2, e3, e4⟩ := h
    refine ⟨a, od, e1, e2, e3, fun z => ?_⟩
    obtain ⟨d, vs, f1, f2, f3, f4, f5⟩ := e4 z
    exact ⟨d, vs, f1, fun z => f2 (hM d (by rw [f3]; exact (fun z => nomatch z)) z), fr _ _ f2 f3, Reps.mono0 l vs f4, f5⟩
  | .own n, v, h => by
    obtain ⟨a, e, q⟩ := h
    obtain ⟨t, rfl⟩ := pre
    refine ⟨a, e, ?_⟩
    rw [List.getElem?_append_left (List.getElem?_eq_some_iff.mp q).1]
    exact q
  | .tup l, v, h => by
    obtain ⟨a, vs, e, s, r⟩ := h
    exact ⟨a, vs, e, sqt_mono tp fz s, Reps.mono0 l vs r⟩
  | .lst l, v, h => by
    obtain ⟨a, vs, e, m, s, r⟩ := h
    exact ⟨a, vs, e, fun z => m (hM a (by rw [s]; exact fun z => nomatch z) z), fr _ _ m s, Reps.mono0 l vs r⟩
  | .frl l, v, h => by
    obtain ⟨a, vs, e, s, r⟩ := h
    exact ⟨a, vs, e, sqf_mono fz s, Reps.mono0 l vs r⟩
  | .dK ks l, v, h => by
    obtain ⟨a, vs, e, m, s, r, z⟩ := h
    exact ⟨a, vs, e, fun z => m (hM a (rd_some s) z), rd_of_frame (fun _ o => fr a o m) s, Reps.mono0 l vs r, z⟩
  | .dT ks l, v, h => by
    obtain ⟨a, vs, e, m, s, r, z⟩ := h
    exact ⟨a, vs, e, fun z => m (hM a (by rw [s]; exact (fun z => nomatch z)) z), fr _ _ m s, Reps.mono0 l vs r, z⟩
  | .obj c fs l, v, h => by
    obtain ⟨a, dx, vs, e, m, s, r, z⟩ := h
    exact ⟨a, dx, vs, e, fun z => m (hM a (by rw [s]; exact fun z => nomatch z) z), fr _ _ m s, Reps.mono0 l vs r, z⟩
theorem Reps.mono0 : ∀ (ds : List D) (vs : List V), Reps K L M H ds vs → Reps K L' M' H' ds vs
  | [], _, h => h
  | d :: ds, vs, h => by
    obtain ⟨v, r, e, h1, h2⟩ := h
    exact ⟨v, r, e, Rep.mono0 d v h1, Reps.mono0 ds r h2⟩
end
end
theorem Ch.pre' (c : Ch L μ H L' μ' H') : ∃ t, L' = L ++ t := let ⟨t, e, _⟩ := c.pre; ⟨t, e⟩
theorem Rep.mono {d : D} {v : V} (h : Rep K L (Mv M0 L μ) H d v) (len : L.length = μ.length) (c : Ch L μ H L' μ' H') : Rep K L' (Mv M0 L' μ') H' d v :=
  Rep.mono0 c.pre' (fun _ hn m => c.mvback len m hn) (fun a o m e => c.frame a o (fun l => m (.inl l)) e) c.tups c.frzs d v h
theorem Reps.mono {d : List D} {v : List V} (h : Reps K L (Mv M0 L μ) H d v) (len : L.length = μ.length) (c : Ch L μ H L' μ' H') : Reps K L' (Mv M0 L' μ') H' d v :=
  Reps.mono0 c.pre' (fun _ hn m => c.mvback len m hn) (fun a o m e => c.frame a o (fun l => m (.inl l)) e) c.tups c.frzs d v h
theorem Reps.nil : Reps K L M H [] [] := rfl
theorem Reps.cons {d : D} {ds : List D} {v : V} {vs : List V} (h : Rep K L M H d v) (t : Reps K L M H ds vs) : Reps K L M H (d :: ds) (v :: vs) := ⟨v, vs, rfl, h, t⟩
theorem Reps.length : ∀ {ds : List D} {vs : List V}, Reps K L M H ds vs → ds.length = vs.length
  | [], _, h => by cases h; rfl
  | _ :: _, _, h => by
    obtain ⟨v, r, rfl, _, h2⟩ := h
    simp [Reps.length h2]
theorem Reps.app : ∀ {ds es : List D} {vs us : List V}, Reps K L M H ds vs → Reps K L M H es us → Reps K L M H (ds ++ es) (vs ++ us)
  | [], _, _, _, h, g => by cases h; exact g
  | _ :: _, _, _, _, h, g => by
    obtain ⟨v, r, rfl, h1, h2⟩ := h
    exact ⟨v, _, rfl, h1, Reps.app h2 g⟩
theorem Reps.get : ∀ {ds : List D} {vs : List V} {i : Nat} {d : D}, Reps K L M H ds vs → ds[i]? = some d → ∃ v, vs[i]? = some v ∧ Rep K L M H d v
  | [], _, _, _, _, e => by simp at e
  | _ :: _, _, 0, _, h, e => by
    obtain ⟨v, r, rfl, h1, h2⟩ := h
    simp at e
    subst e
    exact ⟨v, rfl, h1⟩
  | _ :: _, _, i + 1, _, h, e => by
    obtain ⟨v, r, rfl, h1, h2⟩ := h
    simpa using Reps.get (i := i) h2 (by simpa using e)
theorem Reps.get' {ds : List D} {vs : List V} {i : Nat} {v : V} (h : Reps K L M H ds vs) (e : vs[i]? = some v) : ∃ d, ds[i]? = some d ∧ Rep K L M H d v := by
  have hl : i < ds.length := by
    rw [h.length]
    exact (List.getElem?_eq_some_iff.mp e).1
  obtain ⟨v', e', r⟩ := h.get (List.getElem?_eq_getElem hl)
  rw [e] at e'
  cases e'
  exact ⟨_, List.getElem?_eq_getElem hl, r⟩
theorem Reps.take : ∀ {ds : List D} {vs : List V} (n : Nat), Reps K L M H ds vs → Reps K L M H (ds.take n) (vs.take n)
  | _, _, 0, _ => by simp [Reps]
  | [], _, n + 1, h => by cases h; simp [Reps]
  | _ :: _, _, n + 1, h => by
    obtain ⟨v, r, rfl, h1, h2⟩ := h
    exact ⟨v, _, rfl, h1, Reps.take n h2⟩
theorem Reps.drop : ∀ {ds : List D} {vs : List V} (n : Nat), Reps K L M H ds vs → Reps K L M H (ds.drop n) (vs.drop n)
  | _, _, 0, h => h
  | [], _, n + 1, h => by cases h; simp [Reps]
  | _ :: _, _, n + 1, h => by
    obtain ⟨v, r, rfl, h1, h2⟩ := h
    exact Reps.drop n h2
theorem Reps.set : ∀ {ds : List D} {vs : List V} (i : Nat) {d : D} {v : V}, Reps K L M H ds vs → Rep K L M H d v → Reps K L M H (ds.set i d) (vs.set i v)
  | [], _, _, _, _, h, _ => by cases h; simp [Reps]
  | _ :: _, _, 0, _, _, h, g => by
    obtain ⟨v, r, rfl, h1, h2⟩ := h
    exact ⟨_, _, rfl, g, h2⟩
  | _ :: _, _, i + 1, _, _, h, g => by
    obtain ⟨v, r, rfl, h1, h2⟩ := h
    exact ⟨_, _, rfl, h1, Reps.set i h2 g⟩
theorem Cont.mono0 (pre : ∃ t, L' = L ++ t) (hM : ∀ a, H a ≠ none → M' a → M a) (fr : ∀ a o, ¬ M a → H a = some o → H' a = some o) (tp : ∀ a vs, H a = some (.tup vs) → H' a = some (.tup vs)) (fz : ∀ a o u, H a = some (.frz o u) → H' a = some (.frz o u)) {a : Addr} (ha : ∀ o, H a = some o → H' a = some o) :
    ∀ {d : D}, Cont K L M H d a → Cont K L' M' H' d a := fun {d} h => by
  cases d with
  | lst l => obtain ⟨vs, e, r⟩ := h; exact ⟨vs, ha _ e, Reps.mono0 pre hM fr tp fz _ _ r⟩
  | dK ks l => obtain ⟨vs, e, r, z⟩ := h; exact ⟨vs, ha _ e, Reps.mono0 pre hM fr tp fz _ _ r, z⟩
  | dT ks l => obtain ⟨vs, e, r, z⟩ := h; exact ⟨vs, ha _ e, Reps.mono0 pre hM fr tp fz _ _ r, z⟩
  | obj c fs l => obtain ⟨dx, vs, e, r, z⟩ := h; exact ⟨dx, vs, ha _ e, Reps.mono0 pre hM fr tp fz _ _ r, z⟩
  | _ => exact h.elim
theorem Cont.some {d : D} {a : Addr} (h : Cont K L M H d a) : ∃ o, H a = some o ∧ (∀ vs, o ≠ .tup vs) ∧ (∀ q u, o ≠ .frz q u) ∧ Mut (Option.some o) := by
  cases d with
  | lst l => obtain ⟨vs, e, r⟩ := h; exact ⟨_, e, (fun _ z => nomatch z), (fun _ _ z => nomatch z), trivial⟩
  | dK ks l => obtain ⟨vs, e, r, z⟩ := h; exact ⟨_, e, (fun _ z => nomatch z), (fun _ _ z => nomatch z), trivial⟩
  | dT ks l => obtain ⟨vs, e, r, z⟩ := h; exact ⟨_, e, (fun _ z => nomatch z), (fun _ _ z => nomatch z), trivial⟩
  | obj c fs l => obtain ⟨dx, vs, e, r, z⟩ := h; exact ⟨_, e, (fun _ z => nomatch z), (fun _ _ z => nomatch z), trivial⟩
  | _ => exact h.elim
theorem SR.live_tr (s : SR K M0 L μ H) {a : Addr} (l : Live L μ a) : H a ≠ none := by
  obtain ⟨n, d, e1, _⟩ := l
  exact (s.tr a (List.mem_of_getElem? e1)).1
theorem SR.mv_tr (s : SR K M0 L μ H) {a : Addr} (l : Mv M0 L μ a) : H a ≠ none := by
  rcases l with l | l
  · exact s.live_tr l
  · exact s.trM a l
theorem SR.live_mut (s : SR K M0 L μ H) {a : Addr} (l : Live L μ a) : ∃ o, H a = some o ∧ (∀ vs, o ≠ .tup vs) ∧ (∀ q u, o ≠ .frz q u) ∧ Mut (some o) := by
  obtain ⟨n, d, e1, e2⟩ := l
  obtain ⟨a', e1', c⟩ := s.cont n d e2
  rw [e1] at e1'
  cases e1'
  exact c.some
theorem SR.trans (s : SR K M0 L μ H) (s' : SR K M0 L' μ' H') (a : Ch L μ H L' μ' H') (b : Ch L' μ' H' L2 μ2 H2) : Ch L μ H L2 μ2 H2 :=
  a.trans s.len (fun c l => by
    obtain ⟨n, d, e1, _⟩ := l
    obtain ⟨t, rfl, _⟩ := a.pre
    exact (s'.tr c (List.mem_append_left _ (List.mem_of_getElem? e1))).1) b
/-- a new object that is no one's own -/
theorem SR.new {p : Addr} {o : HO} (s : SR K M0 L μ H) (hp : H p = none) : SR K M0 L μ (upd H p o) ∧ Ch L μ H L μ (upd H p o) := by
  have fr : ∀ a u, H a = some u → upd H p o a = some u := fun a u e => by
    rw [upd_ne (ne_of_none e hp)]
    exact e
  have nn : ∀ a, H a ≠ none → upd H p o a ≠ none := fun a h => by
    cases q : H a with
    | none => exact absurd q h
    | some u => rw [fr a u q]; exact fun z => nomatch z
  refine ⟨⟨s.len, s.nd, fun a ha => ⟨nn a (s.tr a ha).1, (s.tr a ha).2⟩, fun a ha => nn a (s.trM a ha), fun n d e => ?_⟩, ⟨⟨[], by simp, fun _ h => nomatch h⟩, fun a u _ e => fr a u e, fun a vs e => fr _ _ e, fun a q u e => fr _ _ e, fun _ _ e => e⟩⟩
  obtain ⟨a, e1, c⟩ := s.cont n d e
  exact ⟨a, e1, c.mono0 ⟨[], by simp⟩ (fun _ _ m => m) (fun a u _ e => fr a u e) (fun a vs e => fr _ _ e) (fun a q u e => fr _ _ e) (fun u e => fr _ _ e)⟩
/-- a new object of one's own: the next label -/
theorem SR.owned {p : Addr} {o : HO} {d : D} (s : SR K M0 L μ H) (hp : H p = none) (hc : Cont K (L ++ [p]) (Mv M0 (L ++ [p]) (μ ++ [some d])) (upd H p o) d p) :
    SR K M0 (L ++ [p]) (μ ++ [some d]) (upd H p o) ∧ Ch L μ H (L ++ [p]) (μ ++ [some d]) (upd H p o) := by
  have fr : ∀ a u, H a = some u → upd H p o a = some u := fun a u e => by
    rw [upd_ne (ne_of_none e hp)]
    exact e
  have nn : ∀ a, H a ≠ none → upd H p o a ≠ none := fun a h => by
    cases q : H a with
    | none => exact absurd q h
    | some u => rw [fr a u q]; exact fun z => nomatch z
  have C : Ch L μ H (L ++ [p]) (μ ++ [some d]) (upd H p o) := ⟨⟨[p], rfl, fun a ha => by simp at ha; rw [ha]; exact hp⟩, fun a u _ e => fr a u e, fun a vs e => fr _ _ e, fun a q u e => fr _ _ e, fun n hn e => by
    rw [List.getElem?_append_left (by have := s.len; omega)]
    exact e⟩
  refine ⟨⟨by simp [s.len], ?_, fun a ha => ?_, fun a ha => nn a (s.trM a ha), fun n d' e => ?_⟩, C⟩
  · rw [List.nodup_append]
    refine ⟨s.nd, by simp, fun a ha b hb => ?_⟩
    simp at hb
    subst hb
    intro e
    subst e
    exact (s.tr _ ha).1 hp
  · rcases List.mem_append.mp ha with h | h
    · exact ⟨nn a (s.tr a h).1, (s.tr a h).2⟩
    · simp at h
      subst h
      refine ⟨by rw [upd_same]; exact (fun z => nomatch z), fun z => s.trM _ z hp⟩
  · by_cases hn : n < μ.length
    · rw [List.getElem?_append_left hn] at e
      obtain ⟨a, e1, c⟩ := s.cont n d' e
      refine ⟨a, by rw [List.getElem?_append_left (by have := s.len; omega)]; exact e1, c.mono0 C.pre' (fun _ hn m => C.mvback s.len m hn) (fun a u _ e => fr a u e) (fun a vs e => fr _ _ e) (fun a q u e => fr _ _ e) (fun u e => fr _ _ e)⟩
    · rw [List.getElem?_append_right (by omega)] at e
      have h0 : n - μ.length = 0 := by
        cases q : n - μ.length with
        | zero => rfl
        | succ k => rw [q] at e; simp at e
      rw [h0] at e
      simp at e
      subst e
      refine ⟨p, ?_, hc⟩
      have := s.len
      rw [List.getElem?_append_right (by omega), show n - L.length = 0 by omega]
      rfl
theorem getElem?_inj_nodup {α : Type} {l : List α} (h : l.Nodup) {i j : Nat} {x : α} (a : l[i]? = some x) (b : l[j]? = some x) : i = j := by
  obtain ⟨h1, e1⟩ := List.getElem?_eq_some_iff.mp a
  obtain ⟨h2, e2⟩ := List.getElem?_eq_some_iff.mp b
  exact (List.getElem_inj h).mp (e1.trans e2.symm)
/-- one's own object n is changed -/
theorem SR.write {n : Nat} {a : Addr} {o : HO} {d0 d : D} (s : SR K M0 L μ H) (hn : μ[n]? = some (some d0)) (ha : L[n]? = some a) (hc : Cont K L (Mv M0 L (μ.set n (some d))) (upd H a o) d a) :
    SR K M0 L (μ.set n (some d)) (upd H a o) ∧ Ch L μ H L (μ.set n (some d)) (upd H a o) := by
  have lv : Live L μ a := ⟨n, d0, ha, hn⟩
  obtain ⟨o0, h0, nt, nf, _⟩ := s.live_mut lv
  have nn : ∀ b, H b ≠ none → upd H a o b ≠ none := fun b h => by
    by_cases e : b = a
    · subst e; rw [upd_same]; exact fun z => nomatch z
    · rw [upd_ne e]; exact h
  have fr : ∀ b u, ¬ Live L μ b → H b = some u → upd H a o b = some u := fun b u l e => by
    rw [upd_ne (fun z => by subst z; exact l lv)]
    exact e
  have tp : ∀ b vs, H b = some (.tup vs) → upd H a o b = some (.tup vs) := fun b vs e => by
    rw [upd_ne (fun z => by rw [z, h0] at e; exact nt vs (Option.some.inj e))]
    exact e
  have fz : ∀ b q u, H b = some (.frz q u) → upd H a o b = some (.frz q u) := fun b q u e => by
    rw [upd_ne (fun z => by rw [z, h0] at e; exact nf q u (Option.some.inj e))]
    exact e
  have hl : n < μ.length := (List.getElem?_eq_some_iff.mp hn).1
  have C : Ch L μ H L (μ.set n (some d)) (upd H a o) := ⟨⟨[], by simp, fun _ h => nomatch h⟩, fr, tp, fz, fun m _ e => by
    by_cases z : m = n
    · subst z; rw [hn] at e; cases e
    · rw [List.getElem?_set_ne (Ne.symm z)]; exact e⟩
  refine ⟨⟨by simp [s.len], s.nd, fun b hb => ⟨nn b (s.tr b hb).1, (s.tr b hb).2⟩, fun b hb => nn b (s.trM b hb), fun m d' e => ?_⟩, C⟩
  by_cases z : m = n
  · subst z
    rw [List.getElem?_set_self hl] at e
    cases e
    exact ⟨a, ha, hc⟩
  · rw [List.getElem?_set_ne (Ne.symm z)] at e
    obtain ⟨b, e1, c⟩ := s.cont m d' e
    have nb : b ≠ a := fun q => z (getElem?_inj_nodup s.nd e1 (q ▸ ha))
    exact ⟨b, e1, c.mono0 C.pre' (fun _ hn m => C.mvback s.len m hn) (fun b u nm e => fr b u (fun l => nm (.inl l)) e) tp fz (fun u e => by rw [upd_ne nb]; exact e)⟩
end
end DL
end

section
set_option Elab.async false
set_option linter.all false
set_option autoImplicit false
set_option maxRecDepth 100000
set_option maxHeartbeats 1000000
namespace DL
open PySem PySem.Spec PyProof.Rows L2
structure EnvR (K : Gx) (L : List Addr) (M : Addr → Prop) (H : Hp) (ρ : Env) (σ : L2.St) : Prop where
  len : ρ.length = σ.length
  at_ : ∀ (i : Nat) (d : D), ρ[i]? = some (some d) → ∃ v, σ[i]? = some (some v) ∧ Rep K L M H d v
structure Good (K : Gx) (M0 : Addr → Prop) (L : List Addr) (μ : Sto) (H : Hp) (ρ : Env) (σ : L2.St) : Prop where
  sr : SR K M0 L μ H
  ev : EnvR K L (Mv M0 L μ) H ρ σ
structure Ex where
  c : Str
  fs : Option (List Str × List D)
def RepX (K : Gx) (L : List Addr) (M : Addr → Prop) (H : Hp) (x : Ex) (cls : Value) (od : Option Addr) : Prop :=
  cls = .ref (He.ga K.K x.c) ∧ match x.fs with
    | none => od = none
    | some (fs, l) => ∃ d vs, od = some d ∧ ¬ M d ∧ H d = some (.xd (fs.zip vs)) ∧ Reps K L M H l vs ∧ fs.length = vs.length
inductive Res (α : Type) where
  | ok (a : α) (μ : Sto) | ex (x : Ex) (μ : Sto) | bad
def Res.bind {α β : Type} : Res α → (α → Sto → Res β) → Res β
  | .ok a μ, k => k a μ
  | .ex x μ, _ => .ex x μ
  | .bad, _ => .bad
def After {α : Type} (K : Gx) (W : WX) (M0 : Addr → Prop) (ρ : Env) (σ : L2.St) (L : List Addr) (μ : Sto) (H : Hp) (r : Res α) (P : α → List Addr → Sto → Hp → Prop) : Prop :=
  match r with
  | .ok a μ' => ∀ L' H', Good K M0 L' μ' H' ρ σ → Ch L μ H L' μ' H' → P a L' μ' H'
  | .ex x μ' => ∀ cls od L' H', Good K M0 L' μ' H' ρ σ → Ch L μ H L' μ' H' → RepX K L' (Mv M0 L' μ') H' x cls od → W cls od σ H'
  | .bad => False
/-- what follows a value -/
abbrev Wn (K : Gx) (M0 : Addr → Prop) (Q : VK) : D → List Addr → Sto → Hp → Prop := fun d L' μ' H' => ∀ v, Rep K L' (Mv M0 L' μ') H' d v → Q v H'
abbrev FD := Env → Sto → Res D
def tD (K : Gx) (W : WX) (f : FD) : TE := fun σ H Q => ∃ M0 L μ ρ, Good K M0 L μ H ρ σ ∧ After K W M0 ρ σ L μ H (f ρ μ) (Wn K M0 Q)
def tDT (K : Gx) (W : WX) (f : Env → Sto → Res Bool) : TT := fun σ H Q => ∃ M0 L μ ρ, Good K M0 L μ H ρ σ ∧ After K W M0 ρ σ L μ H (f ρ μ) fun b _ _ H' => Q b H'
def tDA (K : Gx) (W : WX) (f : Env → Sto → Res (List D)) : TA := fun σ H Q => ∃ M0 L μ ρ, Good K M0 L μ H ρ σ ∧ After K W M0 ρ σ L μ H (f ρ μ) fun ds L' μ' H' => ∀ vs, Reps K L' (Mv M0 L' μ') H' ds vs → Q vs H'
/-- a new container, at a: its content -/
def tF (K : Gx) (W : WX) (f : FD) : TE := fun σ H Q => ∃ M0 L μ ρ, Good K M0 L μ H ρ σ ∧
  match f ρ μ with
  | .ok d μ' => ∀ a L' H', Good K (fun b => M0 b ∨ b = a) L' μ' H' ρ σ → Ch L μ H L' μ' H' → H a = none → Cont K L' (Mv (fun b => M0 b ∨ b = a) L' μ') H' d a → Q (.ref a) H'
  | .ex x μ' => ∀ cls od L' H', Good K M0 L' μ' H' ρ σ → Ch L μ H L' μ' H' → RepX K L' (Mv M0 L' μ') H' x cls od → W cls od σ H'
  | .bad => False
section
variable {K : Gx} {W : WX} {M0 : Addr → Prop} {L L' : List Addr} {M M' : Addr → Prop} {H H' : Hp} {μ μ' : Sto} {ρ : Env} {σ : L2.St}
theorem EnvR.mono (e : EnvR K L (Mv M0 L μ) H ρ σ) (len : L.length = μ.length) (c : Ch L μ H L' μ' H') : EnvR K L' (Mv M0 L' μ') H' ρ σ :=
  ⟨e.len, fun i d h => let ⟨v, h1, h2⟩ := e.at_ i d h; ⟨v, h1, h2.mono len c⟩⟩
theorem Good.step (g : Good K M0 L μ H ρ σ) (s : SR K M0 L' μ' H') (c : Ch L μ H L' μ' H') : Good K M0 L' μ' H' ρ σ := ⟨s, g.ev.mono g.sr.len c⟩
theorem Good.mono (g : Good K M0 L μ H ρ σ) (c : Ch L μ H L' μ' H') {d : D} {v : V} (r : Rep K L (Mv M0 L μ) H d v) : Rep K L' (Mv M0 L' μ') H' d v := r.mono g.sr.len c
theorem Good.monos (g : Good K M0 L μ H ρ σ) (c : Ch L μ H L' μ' H') {d : List D} {v : List V} (r : Reps K L (Mv M0 L μ) H d v) : Reps K L' (Mv M0 L' μ') H' d v := r.mono g.sr.len c
theorem Good.trans {Lb : List Addr} {μ2 : Sto} {H2 : Hp} {ρ' : Env} {σ' : L2.St} (g : Good K M0 L μ H ρ σ) (g' : Good K M0 L' μ' H' ρ' σ') (a : Ch L μ H L' μ' H') (b : Ch L' μ' H' Lb μ2 H2) : Ch L μ H Lb μ2 H2 := g.sr.trans g'.sr a b
theorem After.bind {α β : Type} {r : Res α} {k : α → Sto → Res β} {P : β → List Addr → Sto → Hp → Prop} {P1 : α → List Addr → Sto → Hp → Prop} (g : Good K M0 L μ H ρ σ) (h : After K W M0 ρ σ L μ H (r.bind k) P)
    (c : ∀ a L1 μ1 H1, Good K M0 L1 μ1 H1 ρ σ → Ch L μ H L1 μ1 H1 → After K W M0 ρ σ L1 μ1 H1 (k a μ1) P → P1 a L1 μ1 H1) : After K W M0 ρ σ L μ H r P1 := by
  cases r with
  | ok a μ1 =>
    intro L1 H1 g1 c1
    refine c a L1 μ1 H1 g1 c1 ?_
    have h' : After K W M0 ρ σ L μ H (k a μ1) P := h
    cases e : k a μ1 with
    | ok b μ2 => rw [e] at h'; exact fun L2 H2 g2 c2 => h' L2 H2 g2 (g.trans g1 c1 c2)
    | ex x μ2 => rw [e] at h'; exact fun cls od L2 H2 g2 c2 r2 => h' cls od L2 H2 g2 (g.trans g1 c1 c2) r2
    | bad => rw [e] at h'; exact h'
  | ex x μ1 => exact h
  | bad => exact h
theorem After.imp {α : Type} {r : Res α} {P P1 : α → List Addr → Sto → Hp → Prop} (h : After K W M0 ρ σ L μ H r P) (c : ∀ a L1 μ1 H1, Good K M0 L1 μ1 H1 ρ σ → Ch L μ H L1 μ1 H1 → P a L1 μ1 H1 → P1 a L1 μ1 H1) : After K W M0 ρ σ L μ H r P1 := by
  cases r with
  | ok a μ1 => exact fun L1 H1 g1 c1 => c a L1 μ1 H1 g1 c1 (h L1 H1 g1 c1)
  | ex x μ1 => exact h
  | bad => exact h
theorem After.now {α : Type} {a : α} {P : α → List Addr → Sto → Hp → Prop} (h : After K W M0 ρ σ L μ H (.ok a μ) P) (g : Good K M0 L μ H ρ σ) : P a L μ H := h L H g (Ch.refl _ _ _)
theorem After.to {α : Type} {a : α} {P : α → List Addr → Sto → Hp → Prop} (h : After K W M0 ρ σ L μ H (.ok a μ') P) (g : Good K M0 L μ H ρ σ) (s : SR K M0 L' μ' H' ∧ Ch L μ H L' μ' H') : P a L' μ' H' := h L' H' (g.step s.1 s.2) s.2
/-- the value is there, the heap as it was -/
theorem After.val {d : D} {v : V} {Q : VK} (h : After K W M0 ρ σ L μ H (.ok d μ) (Wn K M0 Q)) (g : Good K M0 L μ H ρ σ) (r : Rep K L (Mv M0 L μ) H d v) : Q v H := h.now g v r
theorem rep_tup_new {p : Addr} {ds : List D} {vs : List V} (s : SR K M0 L μ H) (hp : H p = none) (r : Reps K L (Mv M0 L μ) H ds vs) : Rep K L (Mv M0 L μ) (upd H p (.tup vs)) (.tup ds) (.ref p) :=
  ⟨p, vs, rfl, SqT.of upd_same, r.mono s.len (s.new hp).2⟩
theorem After.tup {p : Addr} {ds : List D} {vs : List V} {Q : VK} (h : After K W M0 ρ σ L μ H (.ok (.tup ds) μ) (Wn K M0 Q)) (g : Good K M0 L μ H ρ σ) (hp : H p = none) (r : Reps K L (Mv M0 L μ) H ds vs) : Q (.ref p) (upd H p (.tup vs)) :=
  h.to g (g.sr.new hp) _ (rep_tup_new g.sr hp r)
theorem SR.lock {a : Addr} {o : HO} (s : SR K M0 L μ H) (hp : H a = none) : SR K (fun b => M0 b ∨ b = a) L μ (upd H a o) := by
  obtain ⟨s1, c1⟩ := s.new (o := o) hp
  refine ⟨s1.len, s1.nd, fun b hb => ⟨(s1.tr b hb).1, fun z => z.elim (s1.tr b hb).2 fun q => ?_⟩, fun b hb => hb.elim (s1.trM b) fun q => ?_, fun n d e => ?_⟩
  · subst q
    exact (s.tr _ hb).1 hp
  · rw [q, upd_same]
    exact fun z => nomatch z
  · obtain ⟨b, e1, c⟩ := s.cont n d e
    have fr : ∀ x u, H x = some u → upd H a o x = some u := fun x u q => by
      rw [upd_ne (ne_of_none q hp)]
      exact q
    refine ⟨b, e1, c.mono0 ⟨[], by simp⟩ (fun x hx m => ?_) (fun x u _ q => fr x u q) (fun x vs q => fr _ _ q) (fun x q u z => fr _ _ z) (fun u q => fr _ _ q)⟩
    rcases m with m | m | m
    · exact .inl m
    · exact .inr m
    · subst m
      exact absurd hp hx
theorem EnvR.weak {M' : Addr → Prop} (e : EnvR K L M H ρ σ) (h : ∀ a, H a ≠ none → M' a → M a) : EnvR K L M' H ρ σ :=
  ⟨e.len, fun i d q => let ⟨v, h1, h2⟩ := e.at_ i d q; ⟨v, h1, Rep.mono0 ⟨[], by simp⟩ h (fun _ _ _ z => z) (fun _ _ z => z) (fun _ _ _ z => z) d v h2⟩⟩
theorem Good.lock {a : Addr} {o : HO} (g : Good K M0 L μ H ρ σ) (hp : H a = none) : Good K (fun b => M0 b ∨ b = a) L μ (upd H a o) ρ σ := by
  refine ⟨g.sr.lock hp, g.ev.len, fun i d e => ?_⟩
  obtain ⟨v, h1, h2⟩ := g.ev.at_ i d e
  have fr : ∀ x u, H x = some u → upd H a o x = some u := fun x u q => by
    rw [upd_ne (ne_of_none q hp)]
    exact q
  refine ⟨v, h1, Rep.mono0 ⟨[], by simp⟩ (fun x hx m => ?_) (fun x u _ q => fr x u q) (fun x vs q => fr _ _ q) (fun x q u z => fr _ _ z) d v h2⟩
  rcases m with m | m | m
  · exact .inl m
  · exact .inr m
  · subst m
    exact absurd hp hx
theorem Reps.lock {a : Addr} {o : HO} {ds : List D} {vs : List V} (r : Reps K L (Mv M0 L μ) H ds vs) (hp : H a = none) : Reps K L (Mv (fun b => M0 b ∨ b = a) L μ) (upd H a o) ds vs := by
  have fr : ∀ x u, H x = some u → upd H a o x = some u := fun x u q => by
    rw [upd_ne (ne_of_none q hp)]
    exact q
  refine Reps.mono0 ⟨[], by simp⟩ (fun x hx m => ?_) (fun x u _ q => fr x u q) (fun x vs q => fr _ _ q) (fun x q u z => fr _ _ z) ds vs r
  rcases m with m | m | m
  · exact .inl m
  · exact .inr m
  · subst m
    exact absurd hp hx
theorem SR.unlock {a : Addr} (s : SR K (fun b => M0 b ∨ b = a) L μ H) : SR K M0 L μ H :=
  ⟨s.len, s.nd, fun b hb => ⟨(s.tr b hb).1, fun z => (s.tr b hb).2 (.inl z)⟩, fun b hb => s.trM b (.inl hb), fun n d e => by
    obtain ⟨b, e1, c⟩ := s.cont n d e
    exact ⟨b, e1, c.mono0 ⟨[], by simp⟩ (fun x hx m => m.elim .inl fun z => .inr (.inl z)) (fun _ _ _ z => z) (fun _ _ z => z) (fun _ _ _ z => z) fun _ z => z⟩⟩
theorem Good.unlock {a : Addr} (g : Good K (fun b => M0 b ∨ b = a) L μ H ρ σ) : Good K M0 L μ H ρ σ := ⟨g.sr.unlock, g.ev.weak fun x hx m => m.elim .inl fun z => .inr (.inl z)⟩
theorem Cont.rep {a : Addr} {d : D} (c : Cont K L M H d a) (h : ∀ b, H b ≠ none → M' b → M b) (na : ¬ M' a) : Rep K L M' H d (.ref a) := by
  have mm : ∀ ds vs, Reps K L M H ds vs → Reps K L M' H ds vs := fun ds vs r => Reps.mono0 ⟨[], by simp⟩ h (fun _ _ _ z => z) (fun _ _ z => z) (fun _ _ _ z => z) ds vs r
  cases d with
  | lst l => obtain ⟨vs, e, r⟩ := c; exact ⟨a, vs, rfl, na, e, mm _ _ r⟩
  | dK ks l => obtain ⟨vs, e, r, z⟩ := c; exact ⟨a, vs, rfl, na, .inl e, mm _ _ r, z⟩
  | dT ks l => obtain ⟨vs, e, r, z⟩ := c; exact ⟨a, vs, rfl, na, e, mm _ _ r, z⟩
  | obj c' fs l => obtain ⟨dx, vs, e, r, z⟩ := c; exact ⟨a, dx, vs, rfl, na, e, mm _ _ r, z⟩
  | _ => exact c.elim
theorem not_live_of_lock {a : Addr} (s : SR K (fun b => M0 b ∨ b = a) L μ H) : ¬ Live L μ a ∧ a ∉ L := by
  have z : a ∉ L := fun h => (s.tr a h).2 (.inr rfl)
  refine ⟨fun l => ?_, z⟩
  obtain ⟨n, d, e, _⟩ := l
  exact z (List.mem_of_getElem? e)
end
section
variable {X : Cx} {ea : Option (Addr × Option Addr)} {W : WX} {e a b : Expr} {f g : FD} {pos : Pos}
theorem peI {t t' : TE} (h : PE X e t) (i : ∀ σ H Q, t' σ H Q → t σ H Q) : PE X e t' := ⟨fun pins s σ H Q I q => h.run pins s σ H Q I (i _ _ _ q)⟩
theorem ptI {t t' : TT} (h : PT X e t) (i : ∀ σ H Q, t' σ H Q → t σ H Q) : PT X e t' := ⟨fun pins s σ H Q I q => h.run pins s σ H Q I (i _ _ _ q)⟩
theorem paI {es : List Expr} {t t' : TA} (h : PA X es t) (i : ∀ σ H Q, t' σ H Q → t σ H Q) : PA X es t' := ⟨fun pos pins s σ H Q I q => h.run pos pins s σ H Q I (i _ _ _ q)⟩
theorem psI {st : Stmt} {t t' : TS} (h : PS X st t) (i : ∀ D σ H, t' D σ H → t D σ H) : PS X st t' := ⟨fun pins s σ H D I q => h.run pins s σ H D I (i _ _ _ q)⟩
theorem pssI {st : List Stmt} {t t' : TS} (h : PSs X st t) (i : ∀ D σ H, t' D σ H → t D σ H) : PSs X st t' := ⟨fun pins s σ H D I q => h.run pins s σ H D I (i _ _ _ q)⟩
/-- a new container as a value -/
theorem val_imp : ∀ σ H Q, tD (gx X ea) W f σ H Q → tF (gx X ea) W f σ H Q := fun σ H Q ⟨M0, L, μ, ρ, g, q⟩ => by
  refine ⟨M0, L, μ, ρ, g, ?_⟩
  cases r : f ρ μ with
  | ok d μ' =>
    rw [r] at q
    intro a L' H' g' c ha ct
    refine q L' H' g'.unlock c _ (ct.rep (fun b _ m => m.elim .inl fun z => .inr (.inl z)) fun z => ?_)
    rcases z with z | z
    · exact (not_live_of_lock g'.sr).1 z
    · exact g.sr.trM a z ha
  | ex x μ' => rw [r] at q; exact q
  | bad => rw [r] at q; exact q
/-- a new container as an object of one's own -/
def eOwn (f : FD) : FD := fun ρ μ => (f ρ μ).bind fun d μ' => .ok (.own μ'.length) (μ' ++ [some d])
theorem own_imp : ∀ σ H Q, tD (gx X ea) W (eOwn f) σ H Q → tF (gx X ea) W f σ H Q := fun σ H Q ⟨M0, L, μ, ρ, g, q⟩ => by
  refine ⟨M0, L, μ, ρ, g, ?_⟩
  unfold eOwn at q
  cases r : f ρ μ with
  | ok d μ' =>
    rw [r] at q
    intro a L' H' g' c ha ct
    have nl := not_live_of_lock g'.sr
    have q' : ∀ L2 H2, Good (gx X ea) M0 L2 (μ' ++ [some d]) H2 ρ σ → Ch L μ H L2 (μ' ++ [some d]) H2 → ∀ v, Rep (gx X ea) L2 (Mv M0 L2 (μ' ++ [some d])) H2 (.own μ'.length) v → Q v H2 := q
    have hl := g'.sr.len
    -- as M' with the label is the M with the lock
    have back : ∀ x, Mv M0 (L' ++ [a]) (μ' ++ [some d]) x → Mv (fun b => M0 b ∨ b = a) L' μ' x := fun x m => by
      rcases m with ⟨n, d', e1, e2⟩ | m
      · by_cases hn : n < L'.length
        · rw [List.getElem?_append_left hn] at e1
          rw [List.getElem?_append_left (by omega)] at e2
          exact .inl ⟨n, d', e1, e2⟩
        · rw [List.getElem?_append_right (by omega)] at e1
          have := List.mem_of_getElem? e1
          simp at this
          exact .inr (.inr this)
      · exact .inr (.inl m)
    have rm : ∀ {x : D} {v : V}, Rep (gx X ea) L' (Mv (fun b => M0 b ∨ b = a) L' μ') H' x v → Rep (gx X ea) (L' ++ [a]) (Mv M0 (L' ++ [a]) (μ' ++ [some d])) H' x v := fun {x v} r => Rep.mono0 ⟨_, rfl⟩ (fun x _ m => back x m) (fun _ _ _ z => z) (fun _ _ z => z) (fun _ _ _ z => z) _ _ r
    have cm : ∀ {x : D} {y : Addr}, Cont (gx X ea) L' (Mv (fun b => M0 b ∨ b = a) L' μ') H' x y → Cont (gx X ea) (L' ++ [a]) (Mv M0 (L' ++ [a]) (μ' ++ [some d])) H' x y := fun {x y} r => r.mono0 ⟨_, rfl⟩ (fun x _ m => back x m) (fun _ _ _ z => z) (fun _ _ z => z) (fun _ _ _ z => z) fun _ z => z
    refine q' (L' ++ [a]) H' ⟨⟨by simp [hl], ?_, fun x hx => ?_, fun x hx => g'.sr.trM x (.inl hx), fun n d' e => ?_⟩, g'.ev.len, fun i d' e => ?_⟩ ?_ _ ⟨a, rfl, ?_⟩
    · rw [List.nodup_append]
      refine ⟨g'.sr.nd, by simp, fun x hx y hy => ?_⟩
      simp at hy
      subst hy
      intro z
      subst z
      exact nl.2 hx
    · rcases List.mem_append.mp hx with h | h
      · exact ⟨(g'.sr.tr x h).1, fun z => (g'.sr.tr x h).2 (.inl z)⟩
      · simp at h
        subst h
        exact ⟨g'.sr.trM _ (.inr rfl), fun z => g.sr.trM _ z ha⟩
    · by_cases hn : n < μ'.length
      · rw [List.getElem?_append_left hn] at e
        obtain ⟨y, e1, cc⟩ := g'.sr.cont n d' e
        exact ⟨y, by rw [List.getElem?_append_left (by omega)]; exact e1, cm cc⟩
      · rw [List.getElem?_append_right (by omega)] at e
        have h0 : n - μ'.length = 0 := by
          cases z : n - μ'.length with
          | zero => rfl
          | succ k => rw [z] at e; simp at e
        rw [h0] at e
        simp at e
        subst e
        refine ⟨a, ?_, cm ct⟩
        rw [List.getElem?_append_right (by omega), show n - L'.length = 0 by omega]
        rfl
    · obtain ⟨v, h1, h2⟩ := g'.ev.at_ i d' e
      exact ⟨v, h1, rm h2⟩
    · obtain ⟨t, rfl, ft⟩ := c.pre
      refine ⟨⟨t ++ [a], by simp, fun x hx => ?_⟩, c.frame, c.tups, c.frzs, fun n hn e => ?_⟩
      · rcases List.mem_append.mp hx with h | h
        · exact ft x h
        · simp at h
          subst h
          exact ha
      · rw [List.getElem?_append_left (by simp at hl; omega)]
        exact c.dead n hn e
    · rw [← hl]
      simp
  | ex x μ' => rw [r] at q; exact q
  | bad => rw [r] at q; exact q
theorem pd_val (h : PE X e (tF (gx X ea) W f)) : PE X e (tD (gx X ea) W f) := peI h val_imp
theorem pd_own (h : PE X e (tF (gx X ea) W f)) : PE X e (tD (gx X ea) W (eOwn f)) := peI h own_imp
/-! names, constants -/
def eV (i : Nat) : FD := fun ρ μ => match ρ[i]? with
  | some (some d) => .ok d μ
  | _ => .bad
def eC (d : D) : FD := fun _ μ => .ok d μ
theorem pd_v (i : Nat) {x : Str} {pos : Pos} (hN : X.N[i]? = some x := by rfl) (hv : Vis X.env.scope x := by first | exact Or.inl rfl | exact Or.inr (Or.inl rfl) | exact Or.inr (Or.inr rfl)) (hd : (x == ("__debug__" : Str)) = false := by decide)
    (hcd : (x == ("__classdict__" : Str)) = false := by decide) : PE X (.Name x pos) (tD (gx X ea) W (eV i)) := peI (pv i hN hv hd hcd) fun σ H Q ⟨M0, L, μ, ρ, g, q⟩ => by
  unfold eV at q
  split at q
  · rename_i d e
    obtain ⟨v, h1, h2⟩ := g.ev.at_ i d e
    exact ⟨v, h1, q.val g h2⟩
  · exact q.elim
theorem tC_tD {d : D} {v : V} (h : ∀ L M H, Rep (gx X ea) L M H d v) : ∀ σ H Q, tD (gx X ea) W (eC d) σ H Q → tC v σ H Q := fun σ H Q ⟨M0, L, μ, ρ, g, q⟩ => After.val (d := d) q g (h _ _ _)
theorem pd_int {i j pos} : PE X (.Constant (.int i) j pos) (tD (gx X ea) W (eC (.int i))) := peI pe_int (tC_tD fun _ _ _ => rfl)
theorem pd_bl {b j pos} : PE X (.Constant (.bool b) j pos) (tD (gx X ea) W (eC (.bl b))) := peI pe_bl (tC_tD fun _ _ _ => rfl)
theorem pd_non {j pos} : PE X (.Constant .none j pos) (tD (gx X ea) W (eC .non)) := peI pe_non (tC_tD fun _ _ _ => rfl)
theorem pd_str {x j pos} : PE X (.Constant (.str x) j pos) (tD (gx X ea) W (eC (.str x))) := peI pe_str (tC_tD fun _ _ _ => rfl)
/-! arguments, displays -/
def aN : Env → Sto → Res (List D) := fun _ μ => .ok [] μ
def aC (f : FD) (r : Env → Sto → Res (List D)) : Env → Sto → Res (List D) := fun ρ μ => (f ρ μ).bind fun d μ1 => (r ρ μ1).bind fun ds μ2 => .ok (d :: ds) μ2
theorem ad_nil : PA X [] (tDA (gx X ea) W aN) := paI pa_nil fun σ H Q ⟨M0, L, μ, ρ, g, q⟩ => q.now (a := ([] : List D)) g [] rfl
theorem ad_cons {es : List Expr} {r : Env → Sto → Res (List D)} (ha : PE X e (tD (gx X ea) W f)) (hr : PA X es (tDA (gx X ea) W r)) (hs : starEach (e :: es) X.env = (false, eval e X.env) :: starEach es X.env := by rfl) : PA X (e :: es) (tDA (gx X ea) W (aC f r)) :=
  paI (pa_cons ha hr hs) fun σ H Q ⟨M0, L, μ, ρ, g, q⟩ => ⟨M0, L, μ, ρ, g, q.bind g fun d L1 μ1 H1 g1 c1 q1 v rv => ⟨M0, L1, μ1, ρ, g1, q1.bind g1 fun ds L2 μ2 H2 g2 c2 q2 vs rvs => After.now (a := d :: ds) q2 g2 (v :: vs) (Reps.cons (g1.mono c2 rv) rvs)⟩⟩
end
end DL
end

section
set_option Elab.async false
set_option linter.all false
set_option autoImplicit false
set_option maxRecDepth 100000
set_option maxHeartbeats 1000000
namespace DL
open PySem PySem.Spec PyProof.Rows L2
inductive Out where
  | nx (ρ : Env) (μ : Sto) | rt (d : D) (μ : Sto) | bk (ρ : Env) (μ : Sto) | ct (ρ : Env) (μ : Sto) | ex (x : Ex) (ρ : Env) (μ : Sto) | bad
abbrev FS := Env → Sto → Out
def AfterS (K : Gx) (W : WX) (M0 : Addr → Prop) (L : List Addr) (μ : Sto) (H : Hp) (o : Out) (E : Ends) : Prop :=
  match o with
  | .nx ρ' μ' => ∀ σ' L' H', Good K M0 L' μ' H' ρ' σ' → Ch L μ H L' μ' H' → E.nx σ' H'
  | .bk ρ' μ' => ∀ σ' L' H', Good K M0 L' μ' H' ρ' σ' → Ch L μ H L' μ' H' → E.bk σ' H'
  | .ct ρ' μ' => ∀ σ' L' H', Good K M0 L' μ' H' ρ' σ' → Ch L μ H L' μ' H' → E.ct σ' H'
  | .rt d μ' => ∀ v L' H', SR K M0 L' μ' H' → Ch L μ H L' μ' H' → Rep K L' (Mv M0 L' μ') H' d v → E.rt v H'
  | .ex x ρ' μ' => ∀ cls od σ' L' H', Good K M0 L' μ' H' ρ' σ' → Ch L μ H L' μ' H' → RepX K L' (Mv M0 L' μ') H' x cls od → W cls od σ' H'
  | .bad => False
def tS (K : Gx) (W : WX) (g : FS) : TS := fun E σ H => ∃ M0 L μ ρ, Good K M0 L μ H ρ σ ∧ AfterS K W M0 L μ H (g ρ μ) E
/-- an expression's end as a statement's -/
def Res.out {α : Type} (r : Res α) (ρ : Env) (k : α → Sto → Out) : Out := match r with
  | .ok a μ => k a μ
  | .ex x μ => .ex x ρ μ
  | .bad => .bad
section
variable {K : Gx} {W : WX} {M0 : Addr → Prop} {L L' : List Addr} {H H' : Hp} {μ μ' : Sto} {ρ ρ' : Env} {σ σ' : L2.St} {E E' : Ends} {o : Out}
theorem AfterS.rebase (g : Good K M0 L μ H ρ σ) (g' : Good K M0 L' μ' H' ρ' σ') (c : Ch L μ H L' μ' H') (h : AfterS K W M0 L μ H o E) : AfterS K W M0 L' μ' H' o E := by
  cases o with
  | nx _ _ => exact fun s2 L2 H2 g2 c2 => h s2 L2 H2 g2 (g.trans g' c c2)
  | bk _ _ => exact fun s2 L2 H2 g2 c2 => h s2 L2 H2 g2 (g.trans g' c c2)
  | ct _ _ => exact fun s2 L2 H2 g2 c2 => h s2 L2 H2 g2 (g.trans g' c c2)
  | rt _ _ => exact fun v L2 H2 g2 c2 r => h v L2 H2 g2 (g.trans g' c c2) r
  | ex _ _ _ => exact fun cls od s2 L2 H2 g2 c2 r => h cls od s2 L2 H2 g2 (g.trans g' c c2) r
  | bad => exact h
theorem Res.after {α : Type} {r : Res α} {k : α → Sto → Out} {P : α → List Addr → Sto → Hp → Prop} (g : Good K M0 L μ H ρ σ) (h : AfterS K W M0 L μ H (r.out ρ k) E)
    (c : ∀ a L1 μ1 H1, Good K M0 L1 μ1 H1 ρ σ → Ch L μ H L1 μ1 H1 → AfterS K W M0 L1 μ1 H1 (k a μ1) E → P a L1 μ1 H1) : After K W M0 ρ σ L μ H r P := by
  cases r with
  | ok a μ1 => exact fun L1 H1 g1 c1 => c a L1 μ1 H1 g1 c1 (AfterS.rebase g g1 c1 h)
  | ex x μ1 => exact fun cls od L1 H1 g1 c1 rx => h cls od σ L1 H1 g1 c1 rx
  | bad => exact h
theorem Good.set {i : Nat} {d : D} {v : V} (g : Good K M0 L μ H ρ σ) (r : Rep K L (Mv M0 L μ) H d v) : Good K M0 L μ H (ρ.set i (some d)) (σ.set i (some v)) := by
  refine ⟨g.sr, by simp [g.ev.len], fun j d' e => ?_⟩
  by_cases h : j = i
  · subst h
    have hl : j < ρ.length := by
      have := (List.getElem?_eq_some_iff.mp e).1
      simpa using this
    rw [List.getElem?_set_self hl] at e
    cases e
    exact ⟨v, by rw [List.getElem?_set_self (by rw [← g.ev.len]; exact hl)], r⟩
  · rw [List.getElem?_set_ne (Ne.symm h)] at e
    rw [List.getElem?_set_ne (Ne.symm h)]
    exact g.ev.at_ j d' e
theorem Good.forget {i : Nat} (g : Good K M0 L μ H ρ σ) : Good K M0 L μ H (ρ.set i none) (σ.set i none) := by
  refine ⟨g.sr, by simp [g.ev.len], fun j d' e => ?_⟩
  by_cases h : j = i
  · subst h
    by_cases hl : j < ρ.length
    · rw [List.getElem?_set_self hl] at e
      cases e
    · rw [List.getElem?_eq_none (by simpa using hl)] at e
      cases e
  · rw [List.getElem?_set_ne (Ne.symm h)] at e
    rw [List.getElem?_set_ne (Ne.symm h)]
    exact g.ev.at_ j d' e
theorem AfterS.nx' (g : Good K M0 L μ H ρ σ) (h : AfterS K W M0 L μ H (.nx ρ' μ) E) (g' : Good K M0 L μ H ρ' σ') : E.nx σ' H := h σ' L H g' (Ch.refl _ _ _)
end
/-! the statements as functions -/
def sSeq (g h : FS) : FS := fun ρ μ => match g ρ μ with
  | .nx ρ' μ' => h ρ' μ'
  | o => o
def sNx : FS := fun ρ μ => .nx ρ μ
def sSet (i : Nat) (f : FD) : FS := fun ρ μ => (f ρ μ).out ρ fun d μ' => .nx (ρ.set i (some d)) μ'
def sRet (f : FD) : FS := fun ρ μ => (f ρ μ).out ρ fun d μ' => .rt d μ'
def sRetN : FS := fun _ μ => .rt .non μ
def sExpr (f : FD) : FS := fun ρ μ => (f ρ μ).out ρ fun _ μ' => .nx ρ μ'
def sIf (t : Env → Sto → Res Bool) (g h : FS) : FS := fun ρ μ => (t ρ μ).out ρ fun b μ' => if b then g ρ μ' else h ρ μ'
def sBk : FS := fun ρ μ => .bk ρ μ
def sCt : FS := fun ρ μ => .ct ρ μ
section
variable {X : Cx} {ea : Option (Addr × Option Addr)} {W : WX} {st : Stmt} {rest : List Stmt} {g h : FS} {e c : Expr} {f : FD} {pos : Pos}
theorem sd_nil : PSs X [] (tS (gx X ea) W sNx) := pssI pss_nil fun E σ H ⟨M0, L, μ, ρ, gd, q⟩ => AfterS.nx' gd q gd
theorem sd_cons (h1 : PS X st (tS (gx X ea) W g)) (h2 : PSs X rest (tS (gx X ea) W h)) : PSs X (st :: rest) (tS (gx X ea) W (sSeq g h)) := pssI (pss_cons h1 h2) fun E σ H ⟨M0, L, μ, ρ, gd, q⟩ => by
  refine ⟨M0, L, μ, ρ, gd, ?_⟩
  unfold sSeq at q
  cases r : g ρ μ with
  | nx ρ' μ' =>
    rw [r] at q
    exact fun σ' L' H' g' c' => ⟨M0, L', μ', ρ', g', AfterS.rebase gd g' c' q⟩
  | rt _ _ => rw [r] at q; exact q
  | bk _ _ => rw [r] at q; exact q
  | ct _ _ => rw [r] at q; exact q
  | ex _ _ _ => rw [r] at q; exact q
  | bad => rw [r] at q; exact q
theorem sd_one (h1 : PS X st (tS (gx X ea) W g)) : PSs X [st] (tS (gx X ea) W g) := pss_one h1
theorem sd_pass : PS X (.Pass pos) (tS (gx X ea) W sNx) := psI ps_pass fun E σ H ⟨M0, L, μ, ρ, gd, q⟩ => AfterS.nx' gd q gd
theorem sd_bk : PS X (.Break pos) (tS (gx X ea) W sBk) := psI ps_break fun E σ H ⟨M0, L, μ, ρ, gd, q⟩ => q σ L H gd (Ch.refl _ _ _)
theorem sd_ct : PS X (.Continue pos) (tS (gx X ea) W sCt) := psI ps_continue fun E σ H ⟨M0, L, μ, ρ, gd, q⟩ => q σ L H gd (Ch.refl _ _ _)
theorem sd_set {i : Nat} {x : Str} {pos' : Pos} (hN : X.N.Nodup) (hi : X.N[i]? = some x) (hx : Loc X.env.scope x) (he : PE X e (tD (gx X ea) W f)) (hs : swapsWith e (some (.Name x pos')) pos.line X.env = pure false := by rfl) (hf : X.fn x = true ∨ X.env.scope.names.lookup x = some .local := by first | exact .inl rfl | exact .inr rfl | assumption) :
    PS X (.Assign [.Name x pos'] e pos) (tS (gx X ea) W (sSet i f)) := psI (ps_set hN hi hx he hs hf) fun E σ H ⟨M0, L, μ, ρ, gd, q⟩ =>
  ⟨M0, L, μ, ρ, gd, Res.after gd q fun d L1 μ1 H1 g1 c1 q1 v rv => AfterS.nx' g1 q1 (g1.set rv)⟩
theorem sd_ret (he : PE X e (tD (gx X ea) W f)) : PS X (.Return (some e) pos) (tS (gx X ea) W (sRet f)) := psI (ps_ret he) fun E σ H ⟨M0, L, μ, ρ, gd, q⟩ =>
  ⟨M0, L, μ, ρ, gd, Res.after gd q fun d L1 μ1 H1 g1 c1 q1 v rv => q1 v L1 H1 g1.sr (Ch.refl _ _ _) rv⟩
theorem sd_retN : PS X (.Return none pos) (tS (gx X ea) W sRetN) := psI ps_retN fun E σ H ⟨M0, L, μ, ρ, gd, q⟩ => q .non L H gd.sr (Ch.refl _ _ _) rfl
theorem sd_expr (he : PE X e (tD (gx X ea) W f)) (hs : swapsWith e none pos.line X.env = pure false := by rfl) : PS X (.Expr e pos) (tS (gx X ea) W (sExpr f)) := psI (ps_expr he hs) fun E σ H ⟨M0, L, μ, ρ, gd, q⟩ =>
  ⟨M0, L, μ, ρ, gd, Res.after gd q fun d L1 μ1 H1 g1 c1 q1 v rv => AfterS.nx' g1 q1 g1⟩
theorem sd_if {a b : List Stmt} {t : Env → Sto → Res Bool} (hc : PT X c (tDT (gx X ea) W t)) (ha : PSs X a (tS (gx X ea) W g)) (hb : PSs X b (tS (gx X ea) W h)) : PS X (.If c a b pos) (tS (gx X ea) W (sIf t g h)) := psI (ps_if hc ha hb) fun E σ H ⟨M0, L, μ, ρ, gd, q⟩ =>
  ⟨M0, L, μ, ρ, gd, Res.after gd q fun b L1 μ1 H1 g1 c1 q1 => by
    cases b with
    | true => exact iteT ⟨M0, L1, μ1, ρ, g1, q1⟩
    | false => exact iteF ⟨M0, L1, μ1, ρ, g1, q1⟩⟩
end
/-! what a def promises -/
mutual
def lab : D → Nat
  | .own n => n + 1
  | .tup l => labs l
  | .lst l => labs l
  | .frl l => labs l
  | .dK _ l => labs l
  | .dT _ l => labs l
  | .obj _ _ l => labs l
  | .err _ _ _ l => labs l
  | _ => 0
def labs : List D → Nat
  | [] => 0
  | d :: ds => max (lab d) (labs ds)
end
/-- what is left of the store behind a def's end: the caller's own objects -/
def Kept (n : Nat) (μ μ' : Sto) : Prop := n ≤ μ'.length ∧ ∀ m, m < n → μ'[m]? = μ[m]? ∨ ∃ d, μ'[m]? = some (some d) ∧ lab d ≤ n
open Classical in
noncomputable def fin {α : Type} (lb : α → Nat) (μ : Sto) (a : α) (μ' : Sto) : Res α := if lb a ≤ μ.length ∧ Kept μ.length μ μ' then .ok a (μ'.take μ.length) else .bad
def labx (x : Ex) : Nat := match x.fs with
  | none => 0
  | some (_, l) => labs l
open Classical in
noncomputable def finx (μ : Sto) (x : Ex) (μ' : Sto) : Res D := if labx x ≤ μ.length ∧ Kept μ.length μ μ' then .ex x (μ'.take μ.length) else .bad
/-- a def, called: N slots, its body -/
noncomputable def run (n : Nat) (g : FS) (ds : List D) (μ : Sto) : Res D := match g (ds.map some ++ List.replicate (n - ds.length) none) μ with
  | .rt d μ' => fin lab μ d μ'
  | .nx _ μ' => fin lab μ .non μ'
  | .ex x _ μ' => finx μ x μ'
  | _ => .bad
abbrev FM := List D → Sto → Res D
def spD (K : Gx) (np : Nat) (m : FM) : Sp := fun vs H Q E => vs.length = np ∧ ∃ M0 L μ ds, SR K M0 L μ H ∧ Reps K L (Mv M0 L μ) H ds vs ∧
  match m ds μ with
  | .ok d μ' => ∀ v L' H', SR K M0 L' μ' H' → Ch L μ H L' μ' H' → Rep K L' (Mv M0 L' μ') H' d v → Q v H'
  | .ex x μ' => ∀ cls od L' H', SR K M0 L' μ' H' → Ch L μ H L' μ' H' → RepX K L' (Mv M0 L' μ') H' x cls od → E cls od H'
  | .bad => False
section
variable {K : Gx} {W : WX} {M0 : Addr → Prop} {L L' : List Addr} {M M' : Addr → Prop} {H H' : Hp} {μ μ' : Sto} {ρ ρ' : Env} {σ σ' : L2.St} {E E' : Ends} {o : Out}
mutual
theorem Rep.cut {n : Nat} (hm : ∀ a, M' a → M a) : ∀ (d : D) (v : V), lab d ≤ n → Rep K L M H d v → Rep K (L.take n) M' H d v
  | .non, _, _, h => h
  | .bl _, _, _, h => h
  | .int _, _, _, h => h
  | .str _, _, _, h => h
  | .ref _, _, _, h => h
  | .ty _, _, _, h => h
  | .cls _, _, _, h => h
  | .err c o fs l, v, z, h => by
    obtain ⟨a, od, e1, e2, e3, e4⟩ := h
    refine ⟨a, od, e1, e2, e3, fun y => ?_⟩
    obtain ⟨d, vs, f1, f2, f3, f4, f5⟩ := e4 y
    exact ⟨d, vs, f1, fun q => f2 (hm d q), f3, Reps.cut hm l vs z f4, f5⟩
  | .own m, v, l, h => by
    obtain ⟨a, e, q⟩ := h
    refine ⟨a, e, ?_⟩
    rw [List.getElem?_take_of_lt (by simp [lab] at l; omega)]
    exact q
  | .tup l, v, z, h => by
    obtain ⟨a, vs, e, s, r⟩ := h
    exact ⟨a, vs, e, s, Reps.cut hm l vs z r⟩
  | .lst l, v, z, h => by
    obtain ⟨a, vs, e, m, s, r⟩ := h
    exact ⟨a, vs, e, fun q => m (hm a q), s, Reps.cut hm l vs z r⟩
  | .frl l, v, z, h => by
    obtain ⟨a, vs, e, s, r⟩ := h
    exact ⟨a, vs, e, s, Reps.cut hm l vs z r⟩
  | .dK ks l, v, z, h => by
    obtain ⟨a, vs, e, m, s, r, q⟩ := h
    exact ⟨a, vs, e, fun q => m (hm a q), s, Reps.cut hm l vs z r, q⟩
  | .dT ks l, v, z, h => by
    obtain ⟨a, vs, e, m, s, r, q⟩ := h
    exact ⟨a, vs, e, fun q => m (hm a q), s, Reps.cut hm l vs z r, q⟩
  | .obj c fs l, v, z, h => by
    obtain ⟨a, dx, vs, e, m, s, r, q⟩ := h
    exact ⟨a, dx, vs, e, fun q => m (hm a q), s, Reps.cut hm l vs z r, q⟩
theorem Reps.cut {n : Nat} (hm : ∀ a, M' a → M a) : ∀ (ds : List D) (vs : List V), labs ds ≤ n → Reps K L M H ds vs → Reps K (L.take n) M' H ds vs
  | [], _, _, h => h
  | d :: ds, vs, z, h => by
    obtain ⟨v, r, e, h1, h2⟩ := h
    have z' : max (lab d) (labs ds) ≤ n := z
    exact ⟨v, r, e, Rep.cut hm d v (by omega) h1, Reps.cut hm ds r (by omega) h2⟩
end
theorem Cont.cut {n : Nat} {a : Addr} (hm : ∀ a, M' a → M a) {d : D} (l : lab d ≤ n) (h : Cont K L M H d a) : Cont K (L.take n) M' H d a := by
  cases d with
  | lst l' => obtain ⟨vs, e, r⟩ := h; exact ⟨vs, e, Reps.cut hm _ _ l r⟩
  | dK ks l' => obtain ⟨vs, e, r, z⟩ := h; exact ⟨vs, e, Reps.cut hm _ _ l r, z⟩
  | dT ks l' => obtain ⟨vs, e, r, z⟩ := h; exact ⟨vs, e, Reps.cut hm _ _ l r, z⟩
  | obj c fs l' => obtain ⟨dx, vs, e, r, z⟩ := h; exact ⟨dx, vs, e, Reps.cut hm _ _ l r, z⟩
  | _ => exact h.elim
mutual
theorem Rep.lab_le : ∀ (d : D) (v : V), Rep K L M H d v → lab d ≤ L.length
  | .non, _, _ => Nat.zero_le _
  | .bl _, _, _ => Nat.zero_le _
  | .int _, _, _ => Nat.zero_le _
  | .str _, _, _ => Nat.zero_le _
  | .ref _, _, _ => Nat.zero_le _
  | .ty _, _, _ => Nat.zero_le _
  | .cls _, _, _ => Nat.zero_le _
  | .err c o fs l, v, h => by
    obtain ⟨a, od, e1, e2, e3, e4⟩ := h
    cases o with
    | true =>
      obtain ⟨d, vs, f1, f2, f3, f4, f5⟩ := e4 rfl
      exact Reps.lab_le l vs f4
    | false =>
      rw [(e3 rfl).2]
      exact Nat.zero_le _
  | .own m, v, h => by
    obtain ⟨a, e, q⟩ := h
    exact (List.getElem?_eq_some_iff.mp q).1
  | .tup l, v, h => by
    obtain ⟨a, vs, e, s, r⟩ := h
    exact Reps.lab_le l vs r
  | .lst l, v, h => by
    obtain ⟨a, vs, e, m, s, r⟩ := h
    exact Reps.lab_le l vs r
  | .frl l, v, h => by
    obtain ⟨a, vs, e, s, r⟩ := h
    exact Reps.lab_le l vs r
  | .dK ks l, v, h => by
    obtain ⟨a, vs, e, m, s, r, q⟩ := h
    exact Reps.lab_le l vs r
  | .dT ks l, v, h => by
    obtain ⟨a, vs, e, m, s, r, q⟩ := h
    exact Reps.lab_le l vs r
  | .obj c fs l, v, h => by
    obtain ⟨a, dx, vs, e, m, s, r, q⟩ := h
    exact Reps.lab_le l vs r
theorem Reps.lab_le : ∀ (ds : List D) (vs : List V), Reps K L M H ds vs → labs ds ≤ L.length
  | [], _, _ => Nat.zero_le _
  | d :: ds, vs, h => by
    obtain ⟨v, r, e, h1, h2⟩ := h
    have a := Rep.lab_le d v h1
    have b := Reps.lab_le ds r h2
    show max (lab d) (labs ds) ≤ _
    omega
end
theorem Cont.lab_le {a : Addr} {d : D} (h : Cont K L M H d a) : lab d ≤ L.length := by
  cases d with
  | lst l' => obtain ⟨vs, e, r⟩ := h; exact Reps.lab_le _ _ r
  | dK ks l' => obtain ⟨vs, e, r, z⟩ := h; exact Reps.lab_le _ _ r
  | dT ks l' => obtain ⟨vs, e, r, z⟩ := h; exact Reps.lab_le _ _ r
  | obj c fs l' => obtain ⟨dx, vs, e, r, z⟩ := h; exact Reps.lab_le _ _ r
  | _ => exact h.elim
/-- back at the caller: the labels made within are gone -/
theorem SR.cut (s : SR K M0 L μ H) (s' : SR K M0 L' μ' H') (c : Ch L μ H L' μ' H') (k : Kept μ.length μ μ') :
    SR K M0 L (μ'.take μ.length) H' ∧ Ch L μ H L (μ'.take μ.length) H' ∧ (∀ a, Mv M0 L (μ'.take μ.length) a → Mv M0 L' μ' a) ∧ L'.take μ.length = L := by
  obtain ⟨t, rfl, ft⟩ := c.pre
  have tk : (L ++ t).take μ.length = L := by rw [← s.len]; simp
  have hm : ∀ a, Mv M0 L (μ'.take μ.length) a → Mv M0 (L ++ t) μ' a := fun a m => by
    rcases m with ⟨n, d, e1, e2⟩ | m
    · have hn : n < L.length := (List.getElem?_eq_some_iff.mp e1).1
      rw [List.getElem?_take_of_lt (by rw [← s.len]; exact hn)] at e2
      exact .inl ⟨n, d, by rw [List.getElem?_append_left hn]; exact e1, e2⟩
    · exact .inr m
  refine ⟨⟨by have := k.1; rw [List.length_take, s.len]; omega, s.nd, fun a ha => s'.tr a (List.mem_append_left _ ha), s'.trM, fun n d e => ?_⟩, ⟨⟨[], by simp, fun _ h => nomatch h⟩, c.frame, c.tups, c.frzs, fun n hn e => ?_⟩, hm, tk⟩
  · have hn : n < μ.length := by
      have := (List.getElem?_eq_some_iff.mp e).1
      simp at this
      omega
    rw [List.getElem?_take_of_lt hn] at e
    obtain ⟨a, e1, cc⟩ := s'.cont n d e
    rw [List.getElem?_append_left (by rw [s.len]; exact hn)] at e1
    refine ⟨a, e1, ?_⟩
    have ll : lab d ≤ μ.length := by
      rcases k.2 n hn with q | ⟨d', q, l⟩
      · rw [q] at e
        obtain ⟨a', _, c0⟩ := s.cont n d e
        rw [← s.len]
        exact c0.lab_le
      · rw [q] at e
        cases e
        exact l
    have := Cont.cut (n := μ.length) hm ll cc
    rw [tk] at this
    exact this
  · rw [List.getElem?_take_of_lt (by rw [← s.len]; exact hn)]
    exact c.dead n hn e
end
section
variable {P : Program} {w : World} {K : PySem.W.Frag} {mg : Str → Option Value} {base : Heap} {x qual : Str} {params : Arguments} {body : List Stmt} {scope : Scope} {dvs : List V} {kws : List (Str × V)} {f : Addr} {fd : FuncData}
theorem start_d {N : List Str} {g : FS} {np : Nat} {vs : List V} {H : Hp} {Q : VK} {E : XK} (h : spD ⟨K, none⟩ np (run N.length g) vs H Q E) : tS ⟨K, none⟩ (fun cls d _ H => E cls d H) g { nx := fun _ H' => Q .non H', rt := Q } (L2.start N vs) H := by
  obtain ⟨hl, M0, L, μ, ds, sr, rs, q⟩ := h
  have hd := rs.length
  have gd : Good ⟨K, none⟩ M0 L μ H (ds.map some ++ List.replicate (N.length - ds.length) none) (L2.start N vs) := by
    refine ⟨sr, by simp [L2.start, hd], fun i d e => ?_⟩
    by_cases hi : i < ds.length
    · rw [List.getElem?_append_left (by simpa using hi), List.getElem?_map] at e
      cases z : ds[i]? with
      | none => rw [z] at e; simp at e
      | some d' =>
        rw [z] at e
        simp at e
        subst e
        obtain ⟨v, h1, h2⟩ := rs.get z
        refine ⟨v, ?_, h2⟩
        unfold L2.start
        rw [List.getElem?_append_left (by simpa [hd] using hi), List.getElem?_map, h1]
        rfl
    · rw [List.getElem?_append_right (by simpa using hi)] at e
      simp [List.getElem?_replicate] at e
  refine ⟨M0, L, μ, _, gd, ?_⟩
  unfold run at q
  cases r : g (ds.map some ++ List.replicate (N.length - ds.length) none) μ with
  | nx ρ' μ' =>
    rw [r] at q
    by_cases hk : lab .non ≤ μ.length ∧ Kept μ.length μ μ'
    · simp only [fin, if_pos hk] at q
      intro σ' L' H' g' c
      obtain ⟨s2, c2, hm, tk⟩ := sr.cut g'.sr c hk.2
      exact q .non L H' s2 c2 rfl
    · simp only [fin, if_neg hk] at q
  | rt d μ' =>
    rw [r] at q
    by_cases hk : lab d ≤ μ.length ∧ Kept μ.length μ μ'
    · simp only [fin, if_pos hk] at q
      intro v L' H' s' c rv
      obtain ⟨s2, c2, hm, tk⟩ := sr.cut s' c hk.2
      have := Rep.cut hm d v hk.1 rv
      rw [tk] at this
      exact q v L H' s2 c2 this
    · simp only [fin, if_neg hk] at q
  | ex x ρ' μ' =>
    rw [r] at q
    by_cases hk : labx x ≤ μ.length ∧ Kept μ.length μ μ'
    · simp only [finx, if_pos hk] at q
      intro cls od σ' L' H' g' c rx
      obtain ⟨s2, c2, hm, tk⟩ := sr.cut g'.sr c hk.2
      refine q cls od L H' s2 c2 ⟨rx.1, ?_⟩
      have rx2 := rx.2
      cases hf : x.fs with
      | none => rw [hf] at rx2; exact rx2
      | some p =>
        obtain ⟨fs, l⟩ := p
        rw [hf] at rx2
        obtain ⟨d, vs', e1, e2, e3, e4, e5⟩ := rx2
        have lx : labs l ≤ μ.length := by
          have := hk.1
          unfold labx at this
          rw [hf] at this
          exact this
        have := Reps.cut hm l vs' lx e4
        rw [tk] at this
        exact ⟨d, vs', e1, fun z => e2 (hm d z), e3, this, e5⟩
    · simp only [finx, if_neg hk] at q
  | bk _ _ => rw [r] at q; exact q.elim
  | ct _ _ => rw [r] at q; exact q.elim
  | bad => rw [r] at q; exact q.elim
/-- a def holds what its body gives -/
theorem fn_d {N ps : List Str} {k : Nat} {g : FS} (F : FunD K x qual params body scope dvs kws f fd) (S : FnScope N ps scope)
    (hb : ∀ (cdv : Value) (A : Around) (outer : List PySem.Env) (s : Shared) (H : Hp) (E : XK), Room k (A.deeper (envOfC qual scope s.heap.objs.size f cdv)) →
      PSs (cxOf (L2N.CX P w) P w K mg base N qual scope f cdv A outer s H E) body (tS ⟨K, none⟩ (fun cls d _ H => E cls d H) g)) : FnOk P w K mg base (L2N.CX P w) (k + 1) f fd ps (spD ⟨K, none⟩ ps.length (run N.length g)) := by
  exact F.ok S (fun vs H Q E h => h.1) (fun cdv A outer s H vs Q E hr h => ⟨_, hb cdv A outer s H E hr, start_d h⟩)
end

/-! a def that hands back a new container -/
open Classical in
noncomputable def runF (n : Nat) (g : FS) (ds : List D) (μ : Sto) : Res D := match g (ds.map some ++ List.replicate (n - ds.length) none) μ with
  | .rt (.own m) μ' => (match μ'[m]? with
    | some (some c) => if μ.length ≤ m ∧ lab c ≤ μ.length ∧ Kept μ.length μ μ' then .ok c (μ'.take μ.length) else .bad
    | _ => .bad)
  | .ex x _ μ' => finx μ x μ'
  | _ => .bad
def spF (K : Gx) (np : Nat) (m : FM) : Sp := fun vs H Q E => vs.length = np ∧ ∃ M0 L μ ds, SR K M0 L μ H ∧ Reps K L (Mv M0 L μ) H ds vs ∧
  match m ds μ with
  | .ok d μ' => ∀ a L' H', SR K (fun b => M0 b ∨ b = a) L' μ' H' → Ch L μ H L' μ' H' → H a = none → Cont K L' (Mv (fun b => M0 b ∨ b = a) L' μ') H' d a → Q (.ref a) H'
  | .ex x μ' => ∀ cls od L' H', SR K M0 L' μ' H' → Ch L μ H L' μ' H' → RepX K L' (Mv M0 L' μ') H' x cls od → E cls od H'
  | .bad => False
section
variable {K : Gx} {W : WX} {M0 : Addr → Prop} {L L' : List Addr} {M M' : Addr → Prop} {H H' : Hp} {μ μ' : Sto} {ρ ρ' : Env} {σ σ' : L2.St} {E E' : Ends} {o : Out}
theorem SR.cutF {m : Nat} {a : Addr} {d : D} (s : SR K M0 L μ H) (s' : SR K M0 L' μ' H') (c : Ch L μ H L' μ' H') (k : Kept μ.length μ μ') (hm : μ.length ≤ m) (ha : L'[m]? = some a) (hd : μ'[m]? = some (some d)) (hl : lab d ≤ μ.length) :
    SR K (fun b => M0 b ∨ b = a) L (μ'.take μ.length) H' ∧ Ch L μ H L (μ'.take μ.length) H' ∧ H a = none ∧ Cont K L (Mv (fun b => M0 b ∨ b = a) L (μ'.take μ.length)) H' d a := by
  obtain ⟨s2, c2, hmv, tk⟩ := s.cut s' c k
  obtain ⟨t, rfl, ft⟩ := c.pre
  have hat : a ∈ t := by
    rw [List.getElem?_append_right (by rw [s.len]; exact hm)] at ha
    exact List.mem_of_getElem? ha
  have hn : H a = none := ft a hat
  have la : a ∉ L := fun z => (s.tr a z).1 hn
  have mm : ∀ b, Mv (fun b => M0 b ∨ b = a) L (μ'.take μ.length) b → Mv M0 (L ++ t) μ' b := fun b z => by
    rcases z with z | z | z
    · exact hmv b (.inl z)
    · exact .inr z
    · subst z
      exact .inl ⟨m, d, ha, hd⟩
  refine ⟨⟨s2.len, s2.nd, fun b hb => ⟨(s2.tr b hb).1, fun z => z.elim (s2.tr b hb).2 fun q => la (q ▸ hb)⟩, fun b z => z.elim (s2.trM b) fun q => by
    rw [q]
    exact (s'.tr a (List.mem_append_right _ hat)).1, fun n x e => ?_⟩, c2, hn, ?_⟩
  · have hn' : n < μ.length := by
      have := (List.getElem?_eq_some_iff.mp e).1
      simp at this
      omega
    rw [List.getElem?_take_of_lt hn'] at e
    obtain ⟨b, e1, cc⟩ := s'.cont n x e
    rw [List.getElem?_append_left (by rw [s.len]; exact hn')] at e1
    refine ⟨b, e1, ?_⟩
    have ll : lab x ≤ μ.length := by
      rcases k.2 n hn' with q | ⟨d', q, l⟩
      · rw [q] at e
        obtain ⟨a', _, c0⟩ := s.cont n x e
        rw [← s.len]
        exact c0.lab_le
      · rw [q] at e
        cases e
        exact l
    have := Cont.cut (n := μ.length) mm ll cc
    rw [tk] at this
    exact this
  · obtain ⟨b, e1, cc⟩ := s'.cont m d hd
    rw [ha] at e1
    cases e1
    have := Cont.cut (n := μ.length) mm hl cc
    rw [tk] at this
    exact this
end
section
variable {P : Program} {w : World} {K : PySem.W.Frag} {mg : Str → Option Value} {base : Heap} {x qual : Str} {params : Arguments} {body : List Stmt} {scope : Scope} {dvs : List V} {kws : List (Str × V)} {f : Addr} {fd : FuncData}
theorem start_good {N ps : List Str} {M0 : Addr → Prop} {L : List Addr} {μ : Sto} {H : Hp} {ds : List D} {vs : List V} (sr : SR ⟨K, none⟩ M0 L μ H) (rs : Reps ⟨K, none⟩ L (Mv M0 L μ) H ds vs) : Good ⟨K, none⟩ M0 L μ H (ds.map some ++ List.replicate (N.length - ds.length) none) (L2.start N vs) := by
  have hd := rs.length
  refine ⟨sr, by simp [L2.start, hd], fun i d e => ?_⟩
  by_cases hi : i < ds.length
  · rw [List.getElem?_append_left (by simpa using hi), List.getElem?_map] at e
    cases z : ds[i]? with
    | none => rw [z] at e; simp at e
    | some d' =>
      rw [z] at e
      simp at e
      subst e
      obtain ⟨v, h1, h2⟩ := rs.get z
      refine ⟨v, ?_, h2⟩
      unfold L2.start
      rw [List.getElem?_append_left (by simpa [hd] using hi), List.getElem?_map, h1]
      rfl
  · rw [List.getElem?_append_right (by simpa using hi)] at e
    simp [List.getElem?_replicate] at e
theorem fn_f {N ps : List Str} {k : Nat} {g : FS} (F : FunD K x qual params body scope dvs kws f fd) (S : FnScope N ps scope)
    (hb : ∀ (cdv : Value) (A : Around) (outer : List PySem.Env) (s : Shared) (H : Hp) (E : XK), Room k (A.deeper (envOfC qual scope s.heap.objs.size f cdv)) →
      PSs (cxOf (L2N.CX P w) P w K mg base N qual scope f cdv A outer s H E) body (tS ⟨K, none⟩ (fun cls d _ H => E cls d H) g)) : FnOk P w K mg base (L2N.CX P w) (k + 1) f fd ps (spF ⟨K, none⟩ ps.length (runF N.length g)) := by
  refine F.ok S (fun vs H Q E h => h.1) (fun cdv A outer s H vs Q E hr h => ⟨_, hb cdv A outer s H E hr, ?_⟩)
  obtain ⟨hl, M0, L, μ, ds, sr, rs, q⟩ := h
  refine ⟨M0, L, μ, _, start_good (ps := ps) sr rs, ?_⟩
  unfold runF at q
  cases r : g (ds.map some ++ List.replicate (N.length - ds.length) none) μ with
  | rt d μ' =>
    rw [r] at q
    cases d with
    | own m =>
      simp only at q
      cases z : μ'[m]? with
      | none => simp only [z] at q
      | some o =>
        cases o with
        | none => simp only [z] at q
        | some c =>
          simp only [z] at q
          by_cases hk : μ.length ≤ m ∧ lab c ≤ μ.length ∧ Kept μ.length μ μ'
          · rw [if_pos hk] at q
            intro v L' H' s' c' rv
            obtain ⟨a, rfl, ha⟩ := rv
            obtain ⟨s2, c2, hn, ct⟩ := sr.cutF s' c' hk.2.2 hk.1 ha z hk.2.1
            exact q a L H' s2 c2 hn ct
          · rw [if_neg hk] at q
            exact q.elim
    | _ => exact q.elim
  | ex x ρ' μ' =>
    rw [r] at q
    by_cases hk : labx x ≤ μ.length ∧ Kept μ.length μ μ'
    · simp only [finx, if_pos hk] at q
      intro cls od σ' L' H' g' c rx
      obtain ⟨s2, c2, hm, tk⟩ := sr.cut g'.sr c hk.2
      refine q cls od L H' s2 c2 ⟨rx.1, ?_⟩
      have rx2 := rx.2
      cases hf : x.fs with
      | none => rw [hf] at rx2; exact rx2
      | some p =>
        obtain ⟨fs, l⟩ := p
        rw [hf] at rx2
        obtain ⟨d, vs', e1, e2, e3, e4, e5⟩ := rx2
        have lx : labs l ≤ μ.length := by
          have := hk.1
          unfold labx at this
          rw [hf] at this
          exact this
        have := Reps.cut hm l vs' lx e4
        rw [tk] at this
        exact ⟨d, vs', e1, fun z => e2 (hm d z), e3, this, e5⟩
    · simp only [finx, if_neg hk] at q
  | nx _ _ => rw [r] at q; exact q.elim
  | bk _ _ => rw [r] at q; exact q.elim
  | ct _ _ => rw [r] at q; exact q.elim
  | bad => rw [r] at q; exact q.elim
end
end DL
end

section
set_option Elab.async false
set_option linter.all false
set_option autoImplicit false
set_option maxRecDepth 100000
set_option maxHeartbeats 1000000
namespace DL
open PySem PySem.Spec PyProof.Rows L2
/-- what an object of one's own holds -/
def cOf (μ : Sto) : D → D
  | .own n => (match μ[n]? with
    | some (some d) => d
    | _ => .own n)
  | d => d
def seqD (μ : Sto) (d : D) : Option (List D) := match cOf μ d with
  | .lst l => some l
  | .tup l => some l
  | .frl l => some l
  | _ => none
section
variable {K : Gx} {W : WX} {M0 : Addr → Prop} {L L' : List Addr} {M M' : Addr → Prop} {H H' : Hp} {μ μ' : Sto} {ρ ρ' : Env} {σ σ' : L2.St} {d e : D} {v u : V}
theorem lst_of {l : List D} (s : SR K M0 L μ H) (r : Rep K L (Mv M0 L μ) H d v) (h : cOf μ d = .lst l) : ∃ a vs, v = .ref a ∧ H a = some (.lst vs) ∧ Reps K L (Mv M0 L μ) H l vs := by
  cases d with
  | own n =>
    obtain ⟨a, e, q⟩ := r
    unfold cOf at h
    cases z : μ[n]? with
    | none => simp only [z] at h; cases h
    | some o =>
      cases o with
      | none => simp only [z] at h; cases h
      | some d' =>
        simp only [z] at h
        subst h
        obtain ⟨b, e1, vs, c1, c2⟩ := s.cont n _ z
        rw [q] at e1
        cases e1
        exact ⟨a, vs, e, c1, c2⟩
  | lst l' =>
    have h' : D.lst l' = .lst l := h
    cases h'
    obtain ⟨a, vs, e, _, c1, c2⟩ := r
    exact ⟨a, vs, e, c1, c2⟩
  | _ => exact nomatch (show _ = D.lst l from h)
theorem seq_of {l : List D} (s : SR K M0 L μ H) (r : Rep K L (Mv M0 L μ) H d v) (h : seqD μ d = some l) : ∃ a vs, v = .ref a ∧ (SqL K.K H a vs ∨ SqT K.K H a vs) ∧ Reps K L (Mv M0 L μ) H l vs := by
  unfold seqD at h
  cases z : cOf μ d with
  | lst l' =>
    rw [z] at h
    cases h
    obtain ⟨a, vs, e, c1, c2⟩ := lst_of s r z
    exact ⟨a, vs, e, .inl (SqL.of c1), c2⟩
  | tup l' =>
    rw [z] at h
    cases h
    cases d with
    | tup l'' =>
      have z' : D.tup l'' = .tup l := z
      cases z'
      obtain ⟨a, vs, e, c1, c2⟩ := r
      exact ⟨a, vs, e, .inr c1, c2⟩
    | own n =>
      unfold cOf at z
      cases y : μ[n]? with
      | none => simp only [y] at z; cases z
      | some o =>
        cases o with
        | none => simp only [y] at z; cases z
        | some d' =>
          simp only [y] at z
          subst z
          obtain ⟨b, e1, c⟩ := s.cont n _ y
          exact c.elim
    | _ => exact nomatch (show _ = D.tup l from z)
  | frl l' =>
    rw [z] at h
    cases h
    cases d with
    | frl l'' =>
      have z' : D.frl l'' = .frl l := z
      cases z'
      obtain ⟨a, vs, e, c1, c2⟩ := r
      exact ⟨a, vs, e, .inl c1.l, c2⟩
    | own n =>
      unfold cOf at z
      cases y : μ[n]? with
      | none => simp only [y] at z; cases z
      | some o =>
        cases o with
        | none => simp only [y] at z; cases z
        | some d' =>
          simp only [y] at z
          subst z
          obtain ⟨b, e1, c⟩ := s.cont n _ y
          exact c.elim
    | _ => exact nomatch (show _ = D.frl l from z)
  | _ => rw [z] at h; cases h
theorem After.lst {p : Addr} {ds : List D} {vs : List V} {Q : VK} (h : After K W M0 ρ σ L μ H (.ok (.lst ds) μ) (Wn K M0 Q)) (g : Good K M0 L μ H ρ σ) (hp : H p = none) (r : Reps K L (Mv M0 L μ) H ds vs) : Q (.ref p) (upd H p (.lst vs)) :=
  h.to g (g.sr.new hp) _ ⟨p, vs, rfl, fun m => g.sr.mv_tr m hp, upd_same, r.mono g.sr.len (g.sr.new hp).2⟩
end
def OpG (K : Gx) (r : R2) (g : D → D → Sto → Res D) : Prop := ∀ W M0 L μ H ρ σ d e v u Q, Good K M0 L μ H ρ σ → Rep K L (Mv M0 L μ) H d v → Rep K L (Mv M0 L μ) H e u → After K W M0 ρ σ L μ H (g d e μ) (Wn K M0 Q) → r v u H Q
def UnG (K : Gx) (r : V → Hp → VK → Prop) (g : D → Sto → Res D) : Prop := ∀ W M0 L μ H ρ σ d v Q, Good K M0 L μ H ρ σ → Rep K L (Mv M0 L μ) H d v → After K W M0 ρ σ L μ H (g d μ) (Wn K M0 Q) → r v H Q
def CaG (K : Gx) (r : List V → Hp → VK → Prop) (g : List D → Sto → Res D) : Prop := ∀ W M0 L μ H ρ σ ds vs Q, Good K M0 L μ H ρ σ → Reps K L (Mv M0 L μ) H ds vs → After K W M0 ρ σ L μ H (g ds μ) (Wn K M0 Q) → r vs H Q
def e2 (op : D → D → Sto → Res D) (f g : FD) : FD := fun ρ μ => (f ρ μ).bind fun d μ1 => (g ρ μ1).bind fun e μ2 => op d e μ2
def e1 (op : D → Sto → Res D) (f : FD) : FD := fun ρ μ => (f ρ μ).bind op
def eA (op : List D → Sto → Res D) (f : Env → Sto → Res (List D)) : FD := fun ρ μ => (f ρ μ).bind op
/-- ints -/
def iOp (C : Int → Int → Bool) (k : Int → Int → D) : D → D → Sto → Res D
  | .int i, .int j, μ => if C i j then .ok (k i j) μ else .bad
  | _, _, _ => .bad
section
variable {X : Cx} {ea : Option (Addr × Option Addr)} {W : WX} {a b : Expr} {f g : FD} {pos : Pos}
theorem t2 {r : R2} {gop : D → D → Sto → Res D} (hg : OpG (gx X ea) r gop) : ∀ σ H Q, tD (gx X ea) W (e2 gop f g) σ H Q → tOp r (tD (gx X ea) W f) (tD (gx X ea) W g) σ H Q := fun σ H Q ⟨M0, L, μ, ρ, gd, q⟩ =>
  ⟨M0, L, μ, ρ, gd, q.bind gd fun d L1 μ1 H1 g1 c1 q1 v rv => ⟨M0, L1, μ1, ρ, g1, q1.bind g1 fun e L2 μ2 H2 g2 c2 q2 u ru => hg _ _ _ _ _ _ _ _ _ _ _ _ g2 (g1.mono c2 rv) ru q2⟩⟩
theorem pd_op {op : Operator} {r : R2} {gop : D → D → Sto → Res D} (ho : OpR X (binaryOp op) r) (hg : OpG (gx X ea) r gop) (ha : PE X a (tD (gx X ea) W f)) (hb : PE X b (tD (gx X ea) W g)) : PE X (.BinOp a op b pos) (tD (gx X ea) W (e2 gop f g)) := peI (pe_op ho ha hb) (t2 hg)
theorem pd_cmp {op : CmpOp} {r : R2} {gop : D → D → Sto → Res D} (ho : OpR X (compareOp op) r) (hg : OpG (gx X ea) r gop) (ha : PE X a (tD (gx X ea) W f)) (hb : PE X b (tD (gx X ea) W g)) (hm : behindInMarks op b = false) : PE X (.Compare a [op] [b] pos) (tD (gx X ea) W (e2 gop f g)) := peI (pe_cmpR ho ha hb hm) (t2 hg)
theorem pd_un {op : UnaryOp} {r : V → Hp → VK → Prop} {gop : D → Sto → Res D} (ho : UnR X (unaryOp op) r) (hg : UnG (gx X ea) r gop) (ha : PE X a (tD (gx X ea) W f)) : PE X (.UnaryOp op a pos) (tD (gx X ea) W (e1 gop f)) := peI (pe_un ho ha) fun σ H Q ⟨M0, L, μ, ρ, gd, q⟩ =>
  ⟨M0, L, μ, ρ, gd, q.bind gd fun d L1 μ1 H1 g1 c1 q1 v rv => hg _ _ _ _ _ _ _ _ _ _ g1 rv q1⟩
theorem pd_ix {r : R2} {gop : D → D → Sto → Res D} (hr : IxR X r) (hg : OpG (gx X ea) r gop) (ha : PE X a (tD (gx X ea) W f)) (hb : PE X b (tD (gx X ea) W g)) (hs : PlainIx b := by exact fun _ _ => rfl) : PE X (.Subscript a b pos) (tD (gx X ea) W (e2 gop f g)) := peI (pe_ix hr ha hb hs) (t2 hg)
theorem tcb {r : List V → Hp → VK → Prop} {gop : List D → Sto → Res D} {fa : Env → Sto → Res (List D)} (hg : CaG (gx X ea) r gop) : ∀ σ H Q, tD (gx X ea) W (eA gop fa) σ H Q → tCB r (tDA (gx X ea) W fa) σ H Q := fun σ H Q ⟨M0, L, μ, ρ, gd, q⟩ =>
  ⟨M0, L, μ, ρ, gd, q.bind gd fun d L1 μ1 H1 g1 c1 q1 v rv => hg _ _ _ _ _ _ _ _ _ _ g1 rv q1⟩
theorem pd_callB {id : String} {x : Str} {p : Pos} {e : Expr} {es : List Expr} {r : List V → Hp → VK → Prop} {gop : List D → Sto → Res D} {fa : Env → Sto → Res (List D)} (hc : CallR X (.builtin id) r) (hg : CaG (gx X ea) r gop) (hgl : Gl X x) (hm : X.mg x = none) (hv : bootBuiltins x = some (.builtin id)) (ha : PA X (e :: es) (tDA (gx X ea) W fa)) (hn : x ≠ "__name__" := by decide) (hdb : (x == ("__debug__" : Str)) = false := by decide) (he : starEach (e :: es) X.env = (false, eval e X.env) :: starEach es X.env := by rfl) (hpl : (backTo pos (starEach es X.env)).any (·.1) = false := by rfl) :
    PE X (.Call (.Name x p) (e :: es) [] pos) (tD (gx X ea) W (eA gop fa)) := peI (pe_callB hc hgl hm hv ha hn hdb he hpl) (tcb hg)
theorem pd_callTy {id : String} {x : Str} {p : Pos} {e : Expr} {es : List Expr} {r : List V → Hp → VK → Prop} {gop : List D → Sto → Res D} {fa : Env → Sto → Res (List D)} (hc : CallR X (.type id) r) (hg : CaG (gx X ea) r gop) (hgl : Gl X x) (hm : X.mg x = none) (hv : bootBuiltins x = some (.type id)) (ha : PA X (e :: es) (tDA (gx X ea) W fa)) (hn : x ≠ "__name__" := by decide) (hdb : (x == ("__debug__" : Str)) = false := by decide) (he : starEach (e :: es) X.env = (false, eval e X.env) :: starEach es X.env := by rfl) (hpl : (backTo pos (starEach es X.env)).any (·.1) = false := by rfl) :
    PE X (.Call (.Name x p) (e :: es) [] pos) (tD (gx X ea) W (eA gop fa)) := peI (pe_callTy hc hgl hm hv ha hn hdb he hpl) (tcb hg)
theorem pd_tup {es : List Expr} {x1} {fa : Env → Sto → Res (List D)} (h : PA X es (tDA (gx X ea) W fa)) (hl : es.length ≤ 1000 := by decide) : PE X (.Tuple es x1 pos) (tD (gx X ea) W (eA (fun ds μ => if ds.length ≤ 1000 then .ok (.tup ds) μ else .bad) fa)) := peI (pe_tup h) fun σ H Q ⟨M0, L, μ, ρ, gd, q⟩ =>
  ⟨M0, L, μ, ρ, gd, q.bind gd fun ds L1 μ1 H1 g1 c1 q1 vs rv => by
    by_cases z : ds.length ≤ 1000
    · rw [if_pos z] at q1
      exact ⟨by rw [← rv.length]; exact Nat.le_trans z (by decide), fun p hp => After.tup q1 g1 hp rv⟩
    · rw [if_neg z] at q1
      exact q1.elim⟩
theorem pd_lstN {es : List Expr} {fa : Env → Sto → Res (List D)} (h : PA X es (tDA (gx X ea) W fa)) : PE X (.List es pos) (tF (gx X ea) W (eA (fun ds μ => if ds.length ≤ 1000 then .ok (.lst ds) μ else .bad) fa)) := peI (pe_lst h) fun σ H Q ⟨M0, L, μ, ρ, gd, q⟩ => by
  refine ⟨M0, L, μ, ρ, gd, ?_⟩
  unfold eA at q
  cases r : fa ρ μ with
  | ok ds μ1 =>
    rw [r] at q
    intro L1 H1 g1 c1 vs rv
    have q' : match (if ds.length ≤ 1000 then Res.ok (D.lst ds) μ1 else .bad) with
      | .ok d μ' => ∀ a L' H', Good (gx X ea) (fun b => M0 b ∨ b = a) L' μ' H' ρ σ → Ch L μ H L' μ' H' → H a = none → Cont (gx X ea) L' (Mv (fun b => M0 b ∨ b = a) L' μ') H' d a → Q (.ref a) H'
      | .ex x μ' => ∀ cls od L' H', Good (gx X ea) M0 L' μ' H' ρ σ → Ch L μ H L' μ' H' → RepX (gx X ea) L' (Mv M0 L' μ') H' x cls od → W cls od σ H'
      | .bad => False := q
    by_cases z : ds.length ≤ 1000
    · rw [if_pos z] at q'
      refine ⟨by rw [← rv.length]; exact Nat.le_trans z (by decide), fun p hp => q' p L1 _ (g1.lock hp) (gd.trans g1 c1 (g1.sr.new hp).2) ?_ ⟨vs, upd_same, rv.lock hp⟩⟩
      cases h0 : H p with
      | none => rfl
      | some o =>
        by_cases lv : Live L μ p
        · obtain ⟨n, d, z1, z2⟩ := lv
          obtain ⟨t, rfl, _⟩ := c1.pre
          exact absurd hp (g1.sr.tr p (List.mem_append_left _ (List.mem_of_getElem? z1))).1
        · rw [c1.frame p o lv h0] at hp
          cases hp
    · rw [if_neg z] at q'
      exact q'.elim
  | ex x μ1 => rw [r] at q; exact q
  | bad => rw [r] at q; exact q
/-! tests -/
def tB (f : FD) : Env → Sto → Res Bool := fun ρ μ => (f ρ μ).bind fun d μ' => match d with
  | .bl b => .ok b μ'
  | _ => .bad
def tAnd (t u : Env → Sto → Res Bool) : Env → Sto → Res Bool := fun ρ μ => (t ρ μ).bind fun b μ' => if b then u ρ μ' else .ok false μ'
def tOr (t u : Env → Sto → Res Bool) : Env → Sto → Res Bool := fun ρ μ => (t ρ μ).bind fun b μ' => if b then .ok true μ' else u ρ μ'
def tNot (t : Env → Sto → Res Bool) : Env → Sto → Res Bool := fun ρ μ => (t ρ μ).bind fun b μ' => .ok (!b) μ'
theorem td_val {e : Expr} (h : PE X e (tD (gx X ea) W f)) (he : ∀ whole, isTrue e X.env whole = (do let v ← whole; standAt e.pos; holding [v] (truthy v)) := by intro _; rfl) : PT X e (tDT (gx X ea) W (tB f)) := ptI (pt_val h he) fun σ H Q ⟨M0, L, μ, ρ, gd, q⟩ =>
  ⟨M0, L, μ, ρ, gd, q.bind gd fun d L1 μ1 H1 g1 c1 q1 v rv => by
    cases d with
    | bl b => exact ⟨b, rv, After.now q1 g1⟩
    | _ => exact q1.elim⟩
variable {t u : Env → Sto → Res Bool} {rest : List Expr}
theorem pwI {e : Expr} {t t' : TT} (h : PW X e t) (i : ∀ σ H Q, t' σ H Q → t σ H Q) : PW X e t' := ⟨fun whole pins s σ H Q I q => h.run whole pins s σ H Q I (i _ _ _ q)⟩
theorem tB_val {F : FD} : ∀ σ H Q, tDT (gx X ea) W (tB F) σ H Q → tD (gx X ea) W F σ H (fun v H' => ∃ b, v = .bl b ∧ Q b H') := fun σ H Q ⟨M0, L, μ, ρ, gd, q⟩ =>
  ⟨M0, L, μ, ρ, gd, q.bind gd fun d L1 μ1 H1 g1 c1 q1 v rv => by
    cases d with
    | bl b => exact ⟨b, rv, After.now q1 g1⟩
    | _ => exact q1.elim⟩
theorem td_cmp {op : CmpOp} {r : R2} {gop : D → D → Sto → Res D} (ho : OpR X (compareOp op) r) (hg : OpG (gx X ea) r gop) (ha : PE X a (tD (gx X ea) W f)) (hb : PE X b (tD (gx X ea) W g)) (hm : behindInMarks op b = false) : PT X (.Compare a [op] [b] pos) (tDT (gx X ea) W (tB (e2 gop f g))) := ptI (pt_cmpR ho ha hb hm) fun σ H Q h => t2 hg _ _ _ (tB_val σ H Q h)
theorem wd_and1 (ha : PT X a (tDT (gx X ea) W t)) : PW X (.BoolOp .And [a] pos) (tDT (gx X ea) W t) := pw_and1 ha
theorem wd_or1 (ha : PT X a (tDT (gx X ea) W t)) : PW X (.BoolOp .Or [a] pos) (tDT (gx X ea) W t) := pw_or1 ha
theorem wd_and (ha : PT X a (tDT (gx X ea) W t)) (hb : PW X (.BoolOp .And (b :: rest) pos) (tDT (gx X ea) W u)) : PW X (.BoolOp .And (a :: b :: rest) pos) (tDT (gx X ea) W (tAnd t u)) := pwI (pw_and ha hb) fun σ H Q ⟨M0, L, μ, ρ, gd, q⟩ =>
  ⟨M0, L, μ, ρ, gd, q.bind gd fun c L1 μ1 H1 g1 c1 q1 => by
    cases c with
    | true => exact ⟨M0, L1, μ1, ρ, g1, q1⟩
    | false => exact After.now q1 g1⟩
theorem wd_or (ha : PT X a (tDT (gx X ea) W t)) (hb : PW X (.BoolOp .Or (b :: rest) pos) (tDT (gx X ea) W u)) : PW X (.BoolOp .Or (a :: b :: rest) pos) (tDT (gx X ea) W (tOr t u)) := pwI (pw_or ha hb) fun σ H Q ⟨M0, L, μ, ρ, gd, q⟩ =>
  ⟨M0, L, μ, ρ, gd, q.bind gd fun c L1 μ1 H1 g1 c1 q1 => by
    cases c with
    | true => exact After.now q1 g1
    | false => exact ⟨M0, L1, μ1, ρ, g1, q1⟩⟩
theorem td_not (ha : PT X a (tDT (gx X ea) W t)) : PT X (.UnaryOp .Not a pos) (tDT (gx X ea) W (tNot t)) := ptI (pt_not ha) fun σ H Q ⟨M0, L, μ, ρ, gd, q⟩ =>
  ⟨M0, L, μ, ρ, gd, q.bind gd fun c L1 μ1 H1 g1 c1 q1 => After.now q1 g1⟩
def eAnd (f g : FD) : FD := fun ρ μ => (f ρ μ).bind fun d μ' => match d with
  | .bl true => g ρ μ'
  | .bl false => .ok (.bl false) μ'
  | _ => .bad
def eOr (f g : FD) : FD := fun ρ μ => (f ρ μ).bind fun d μ' => match d with
  | .bl true => .ok (.bl true) μ'
  | .bl false => g ρ μ'
  | _ => .bad
def oNot : D → Sto → Res D
  | .bl b, μ => .ok (.bl (!b)) μ
  | _, _ => .bad
def eIf (t : Env → Sto → Res Bool) (f g : FD) : FD := fun ρ μ => (t ρ μ).bind fun b μ' => if b then f ρ μ' else g ρ μ'
theorem pd_one {op} (h : PE X a (tD (gx X ea) W f)) : PE X (.BoolOp op [a] pos) (tD (gx X ea) W f) := pe_one h
theorem pd_and (ha : PE X a (tD (gx X ea) W f)) (hb : PE X (.BoolOp .And (b :: rest) pos) (tD (gx X ea) W g)) : PE X (.BoolOp .And (a :: b :: rest) pos) (tD (gx X ea) W (eAnd f g)) := peI (pe_and ha hb) fun σ H Q ⟨M0, L, μ, ρ, gd, q⟩ =>
  ⟨M0, L, μ, ρ, gd, q.bind gd fun d L1 μ1 H1 g1 c1 q1 v rv => by
    cases d with
    | bl c =>
      cases c with
      | true => exact ⟨true, rv, ⟨M0, L1, μ1, ρ, g1, q1⟩⟩
      | false => exact ⟨false, rv, After.val q1 g1 rfl⟩
    | _ => exact q1.elim⟩
theorem pd_or (ha : PE X a (tD (gx X ea) W f)) (hb : PE X (.BoolOp .Or (b :: rest) pos) (tD (gx X ea) W g)) : PE X (.BoolOp .Or (a :: b :: rest) pos) (tD (gx X ea) W (eOr f g)) := peI (pe_or ha hb) fun σ H Q ⟨M0, L, μ, ρ, gd, q⟩ =>
  ⟨M0, L, μ, ρ, gd, q.bind gd fun d L1 μ1 H1 g1 c1 q1 v rv => by
    cases d with
    | bl c =>
      cases c with
      | true => exact ⟨true, rv, After.val q1 g1 rfl⟩
      | false => exact ⟨false, rv, ⟨M0, L1, μ1, ρ, g1, q1⟩⟩
    | _ => exact q1.elim⟩
theorem pd_not (ha : PE X a (tD (gx X ea) W f)) : PE X (.UnaryOp .Not a pos) (tD (gx X ea) W (e1 oNot f)) := peI (pe_not ha) fun σ H Q ⟨M0, L, μ, ρ, gd, q⟩ =>
  ⟨M0, L, μ, ρ, gd, q.bind gd fun d L1 μ1 H1 g1 c1 q1 v rv => by
    cases d with
    | bl c => exact ⟨c, rv, After.val q1 g1 rfl⟩
    | _ => exact q1.elim⟩
theorem pd_if {c : Expr} (hc : PT X c (tDT (gx X ea) W t)) (ha : PE X a (tD (gx X ea) W f)) (hb : PE X b (tD (gx X ea) W g)) : PE X (.IfExp c a b pos) (tD (gx X ea) W (eIf t f g)) := peI (pe_ifExp hc ha hb) fun σ H Q ⟨M0, L, μ, ρ, gd, q⟩ =>
  ⟨M0, L, μ, ρ, gd, q.bind gd fun d L1 μ1 H1 g1 c1 q1 => by
    cases d with
    | true => exact ⟨M0, L1, μ1, ρ, g1, q1⟩
    | false => exact ⟨M0, L1, μ1, ρ, g1, q1⟩⟩
/-! a def is called -/
theorem pd_call {x : Str} {p : Pos} {e : Expr} {es : List Expr} {k np : Nat} {fa : Env → Sto → Res (List D)} {fn : Addr} {fd : FuncData} {ps : List Str} {m : FM} {dvs : List V} {dfl : List D} {ds : List Value} (F : FnOk X.prog X.w X.K X.mg X.base (L2N.CX X.prog X.w) k fn fd ps (spD ⟨X.K, none⟩ np m)) (hr : Room k X.A) (tk : L2N.Takes X W) (hg : Gl X x) (hm : X.mg x = some (.ref fn)) (hk : PySem.W.keepIn X.K (.ref fn) = true)
    (hb : Binds X.K fd ps ds) (hd : Vals dvs ds) (hdd : ∀ L M H, Reps (gx X none) L M H dfl dvs) (ha : PA X (e :: es) (tDA (gx X none) W fa)) (hn : ∀ ρ μ as μ', fa ρ μ = .ok as μ' → as.length + dfl.length = np) (hdb : (x == ("__debug__" : Str)) = false := by decide) (he : starEach (e :: es) X.env = (false, eval e X.env) :: starEach es X.env := by rfl) (hpl : (backTo pos (starEach es X.env)).any (·.1) = false := by rfl) :
    PE X (.Call (.Name x p) (e :: es) [] pos) (tD (gx X none) W (eA (fun as => m (as ++ dfl)) fa)) := peI (pe_callSD F hr hg hm hk hb hd (fun σ => L2N.passAt tk σ) ha hdb he hpl) fun σ H Q ⟨M0, L, μ, ρ, gd, q⟩ => by
  have hn' := hn ρ μ
  refine ⟨M0, L, μ, ρ, gd, ?_⟩
  have q' : After (gx X none) W M0 ρ σ L μ H ((fa ρ μ).bind fun as => m (as ++ dfl)) (Wn (gx X none) M0 Q) := q
  cases r : fa ρ μ with
  | ok as μ1 =>
    rw [r] at q' hn'
    have hl := hn' as μ1 rfl
    intro L1 H1 g1 c1 vs rv
    refine ⟨?_, M0, L1, μ1, as ++ dfl, g1.sr, rv.app (hdd _ _ _), ?_⟩
    · rw [List.length_append, ← rv.length, ← (hdd L1 (Mv M0 L1 μ1) H1).length]
      exact hl
    · have q2 : After (gx X none) W M0 ρ σ L1 μ1 H1 (m (as ++ dfl) μ1) (Wn (gx X none) M0 Q) := by
        have := After.bind (k := fun as => m (as ++ dfl)) (r := Res.ok as μ1) (P := Wn (gx X none) M0 Q) (P1 := fun as' L1 μ1 H1 => After (gx X none) W M0 ρ σ L1 μ1 H1 (m (as' ++ dfl) μ1) (Wn (gx X none) M0 Q)) gd q' (fun a L1 μ1 H1 _ _ z => z)
        exact this L1 H1 g1 c1
      cases z : m (as ++ dfl) μ1 with
      | ok d μ2 =>
        rw [z] at q2
        exact fun v L' H' s' c' rv' => q2 L' H' (g1.step s' c') c' v rv'
      | ex y μ2 =>
        rw [z] at q2
        exact fun cls od L' H' s' c' rx => q2 cls od L' H' (g1.step s' c') c' rx
      | bad => rw [z] at q2; exact q2
  | ex y μ1 => rw [r] at q'; exact q'
  | bad => rw [r] at q'; exact q'
end
section
variable {X : Cx} {ea : Option (Addr × Option Addr)} {W : WX}
theorem pd_callF {x : Str} {p pos : Pos} {e : Expr} {es : List Expr} {k np : Nat} {fa : Env → Sto → Res (List D)} {fn : Addr} {fd : FuncData} {ps : List Str} {m : FM} {dvs : List V} {dfl : List D} {ds : List Value} (F : FnOk X.prog X.w X.K X.mg X.base (L2N.CX X.prog X.w) k fn fd ps (spF (gx X none) np m)) (hr : Room k X.A) (tk : L2N.Takes X W) (hg : Gl X x) (hm : X.mg x = some (.ref fn)) (hk : PySem.W.keepIn X.K (.ref fn) = true)
    (hb : Binds X.K fd ps ds) (hd : Vals dvs ds) (hdd : ∀ L M H, Reps (gx X none) L M H dfl dvs) (ha : PA X (e :: es) (tDA (gx X none) W fa)) (hn : ∀ ρ μ as μ', fa ρ μ = .ok as μ' → as.length + dfl.length = np) (hdb : (x == ("__debug__" : Str)) = false := by decide) (he : starEach (e :: es) X.env = (false, eval e X.env) :: starEach es X.env := by rfl) (hpl : (backTo pos (starEach es X.env)).any (·.1) = false := by rfl) :
    PE X (.Call (.Name x p) (e :: es) [] pos) (tF (gx X none) W (eA (fun as => m (as ++ dfl)) fa)) := peI (pe_callSD F hr hg hm hk hb hd (fun σ => L2N.passAt tk σ) ha hdb he hpl) fun σ H Q ⟨M0, L, μ, ρ, gd, q⟩ => by
  have hn' := hn ρ μ
  refine ⟨M0, L, μ, ρ, gd, ?_⟩
  unfold eA at q
  cases r : fa ρ μ with
  | ok as μ1 =>
    rw [r] at hn'
    rw [r] at q
    have hl := hn' as μ1 rfl
    intro L1 H1 g1 c1 vs rv
    refine ⟨?_, M0, L1, μ1, as ++ dfl, g1.sr, rv.app (hdd _ _ _), ?_⟩
    · rw [List.length_append, ← rv.length, ← (hdd L1 (Mv M0 L1 μ1) H1).length]
      exact hl
    · have back : ∀ a, H1 a = none → H a = none := fun a h => by
        cases h0 : H a with
        | none => rfl
        | some o =>
          by_cases lv : Live L μ a
          · obtain ⟨n, d, z1, z2⟩ := lv
            obtain ⟨t, rfl, _⟩ := c1.pre
            exact absurd h (g1.sr.tr a (List.mem_append_left _ (List.mem_of_getElem? z1))).1
          · rw [c1.frame a o lv h0] at h
            cases h
      have q' : match m (as ++ dfl) μ1 with
        | .ok d μ' => ∀ a L' H', Good (gx X none) (fun b => M0 b ∨ b = a) L' μ' H' ρ σ → Ch L μ H L' μ' H' → H a = none → Cont (gx X none) L' (Mv (fun b => M0 b ∨ b = a) L' μ') H' d a → Q (.ref a) H'
        | .ex x μ' => ∀ cls od L' H', Good (gx X none) M0 L' μ' H' ρ σ → Ch L μ H L' μ' H' → RepX (gx X none) L' (Mv M0 L' μ') H' x cls od → W cls od σ H'
        | .bad => False := q
      cases z : m (as ++ dfl) μ1 with
      | ok d μ2 =>
        rw [z] at q'
        intro a L' H' s' c' ha ct
        refine q' a L' H' ⟨s', g1.ev.len, fun i d e => ?_⟩ (gd.trans g1 c1 c') (back a ha) ct
        obtain ⟨v, e1, r1⟩ := g1.ev.at_ i d e
        refine ⟨v, e1, Rep.mono0 c'.pre' (fun b hb m => ?_) (fun b o m e => c'.frame b o (fun l => m (.inl l)) e) c'.tups c'.frzs d v r1⟩
        rcases m with m | m | m
        · exact .inl (c'.back g1.sr.len m hb)
        · exact .inr m
        · subst m
          exact absurd ha hb
      | ex y μ2 =>
        rw [z] at q'
        exact fun cls od L' H' s' c' rx => q' cls od L' H' (g1.step s' c') (gd.trans g1 c1 c') rx
      | bad => rw [z] at q'; exact q'
  | ex y μ1 => rw [r] at q; exact q
  | bad => rw [r] at q; exact q
end
/-- a new container is a value as well -/
theorem spF_D {K : Gx} {np : Nat} {m : FM} : ∀ vs H Q E, spD K np m vs H Q E → spF K np m vs H Q E := fun vs H Q E ⟨hl, M0, L, μ, ds, sr, rs, q⟩ => by
  refine ⟨hl, M0, L, μ, ds, sr, rs, ?_⟩
  cases z : m ds μ with
  | ok d μ' =>
    rw [z] at q
    intro a L' H' s' c' ha ct
    refine q _ L' H' s'.unlock c' (ct.rep (fun b _ m => m.elim .inl fun z => .inr (.inl z)) fun y => ?_)
    rcases y with y | y
    · exact (not_live_of_lock s').1 y
    · exact sr.trM a y ha
  | ex x μ' => rw [z] at q; exact q
  | bad => rw [z] at q; exact q
theorem aN_len : ∀ ρ μ as μ', aN ρ μ = .ok as μ' → as.length = 0 := fun ρ μ as μ' h => by
  cases h
  rfl
theorem aC_len {f : FD} {r : Env → Sto → Res (List D)} {n : Nat} (h : ∀ ρ μ as μ', r ρ μ = .ok as μ' → as.length = n) : ∀ ρ μ as μ', aC f r ρ μ = .ok as μ' → as.length = n + 1 := fun ρ μ as μ' e => by
  unfold aC at e
  cases z : f ρ μ with
  | ok d μ1 =>
    rw [z] at e
    have e' : ((r ρ μ1).bind fun ds μ2 => Res.ok (d :: ds) μ2) = .ok as μ' := e
    cases y : r ρ μ1 with
    | ok ds μ2 =>
      rw [y] at e'
      cases e'
      simp [h _ _ _ _ y]
    | ex _ _ => rw [y] at e'; cases e'
    | bad => rw [y] at e'; cases e'
  | ex _ _ => rw [z] at e; cases e
  | bad => rw [z] at e; cases e
end DL
end

section
set_option Elab.async false
set_option linter.all false
set_option autoImplicit false
set_option maxRecDepth 100000
set_option maxHeartbeats 1000000
namespace DL
open PySem PySem.Spec PyProof.Rows L2
section
variable {K : Gx} {W : WX} {M0 : Addr → Prop} {L L' : List Addr} {M M' : Addr → Prop} {H H' : Hp} {μ μ' : Sto} {ρ ρ' : Env} {σ σ' : L2.St} {d e x : D} {v u : V}
theorem sc_of (s : SR K M0 L μ H) (r : Rep K L (Mv M0 L μ) H d v) (h : cOf μ d = x) (n : ∀ L M H a, ¬ Cont K L M H x a) (nw : ∀ n, x ≠ .own n) : d = x := by
  cases d with
  | own m =>
    unfold cOf at h
    cases y : μ[m]? with
    | none => simp only [y] at h; exact absurd h.symm (nw m)
    | some o =>
      cases o with
      | none => simp only [y] at h; exact absurd h.symm (nw m)
      | some d' =>
        simp only [y] at h
        subst h
        obtain ⟨b, e1, c⟩ := s.cont m _ y
        exact absurd c (n _ _ _ _)
  | _ => exact h
theorem int_of {i : Int} (s : SR K M0 L μ H) (r : Rep K L (Mv M0 L μ) H d v) (h : cOf μ d = .int i) : v = .int i := by
  have := sc_of s r h (fun _ _ _ _ z => z) (fun _ z => nomatch z)
  subst this
  exact r
theorem str_of {i : Str} (s : SR K M0 L μ H) (r : Rep K L (Mv M0 L μ) H d v) (h : cOf μ d = .str i) : v = .str i := by
  have := sc_of s r h (fun _ _ _ _ z => z) (fun _ z => nomatch z)
  subst this
  exact r
theorem bl_of {i : Bool} (s : SR K M0 L μ H) (r : Rep K L (Mv M0 L μ) H d v) (h : cOf μ d = .bl i) : v = .bl i := by
  have := sc_of s r h (fun _ _ _ _ z => z) (fun _ z => nomatch z)
  subst this
  exact r
theorem tup_of {l : List D} (s : SR K M0 L μ H) (r : Rep K L (Mv M0 L μ) H d v) (h : cOf μ d = .tup l) : ∃ a vs, v = .ref a ∧ SqT K.K H a vs ∧ Reps K L (Mv M0 L μ) H l vs := by
  have := sc_of s r h (fun _ _ _ _ z => z) (fun _ z => nomatch z)
  subst this
  exact r
end
def oAdd (d e : D) (μ : Sto) : Res D := match cOf μ d, cOf μ e with
  | .int i, .int j => .ok (.int (i + j)) μ
  | .int i, .bl b => .ok (.int (i + b2i b)) μ
  | .str x, .str y => if x.length + y.length ≤ 16777216 then .ok (.str (x ++ y)) μ else .bad
  | .lst l, .lst r => if l.length + r.length ≤ 16777216 then .ok (.lst (l ++ r)) μ else .bad
  | .tup l, .tup r => if l ≠ [] ∧ l.length + r.length ≤ 16777216 then .ok (.tup (l ++ r)) μ else .bad
  | _, _ => .bad
def rAddAll (K : PySem.W.Frag) : R2 := fun x y H Q => (rI0 fun i j => .int (i + j)) x y H Q ∨ (∃ i k, x = .int i ∧ y = .bl k ∧ Q (.int (i + b2i k)) H) ∨ (∃ i j, x = .str i ∧ y = .str j ∧ i.length + j.length ≤ sizeLine ∧ Q (.str (i ++ j)) H) ∨ rCat x y H Q ∨ rCatT K x y H Q
theorem op_addAll {X : Cx} : OpR X (binaryOp .Add) (rAddAll X.K) := op_add.or (op_add_ib.or (op_add_str.or (op_cat.or op_catT)))
theorem line_le {n : Nat} (h : n ≤ 16777216) : n ≤ sizeLine := by rw [sizeLine_eq]; exact h
theorem og_add {K : Gx} : OpG K (rAddAll K.K) oAdd := by
  intro W M0 L μ H ρ σ d e v u Q g rd re q
  unfold oAdd at q
  split at q
  · rename_i i j h1 h2
    rw [int_of g.sr rd h1, int_of g.sr re h2]
    exact .inl ⟨_, _, rfl, rfl, After.val q g rfl⟩
  · rename_i i j h1 h2
    rw [int_of g.sr rd h1, bl_of g.sr re h2]
    exact .inr (.inl ⟨_, _, rfl, rfl, After.val q g rfl⟩)
  · rename_i x y h1 h2
    by_cases z : x.length + y.length ≤ 16777216
    · rw [if_pos z] at q
      rw [str_of g.sr rd h1, str_of g.sr re h2]
      exact .inr (.inr (.inl ⟨_, _, rfl, rfl, line_le z, After.val q g rfl⟩))
    · rw [if_neg z] at q
      exact q.elim
  · rename_i l r h1 h2
    by_cases z : l.length + r.length ≤ 16777216
    · rw [if_pos z] at q
      obtain ⟨a, vs, e1, c1, r1⟩ := lst_of g.sr rd h1
      obtain ⟨b, us, e2, c2, r2⟩ := lst_of g.sr re h2
      refine .inr (.inr (.inr (.inl ⟨a, b, vs, us, e1, e2, c1, c2, line_le (by rw [← r1.length, ← r2.length]; exact z), fun p hp => After.lst q g hp (r1.app r2)⟩)))
    · rw [if_neg z] at q
      exact q.elim
  · rename_i l r h1 h2
    by_cases z : l ≠ [] ∧ l.length + r.length ≤ 16777216
    · rw [if_pos z] at q
      obtain ⟨a, vs, e1, c1, r1⟩ := tup_of g.sr rd h1
      obtain ⟨b, us, e2, c2, r2⟩ := tup_of g.sr re h2
      refine .inr (.inr (.inr (.inr ⟨a, b, vs, us, e1, e2, c1, c2, fun w => z.1 ?_, line_le (by rw [← r1.length, ← r2.length]; exact z.2), fun w => ?_, fun w p hp => After.tup q g hp (r1.app r2)⟩)))
      · have := r1.length
        rw [w] at this
        exact List.eq_nil_of_length_eq_zero this
      · have hr : r = [] := by
          have := r2.length
          rw [w] at this
          exact List.eq_nil_of_length_eq_zero this
        subst hr
        rw [List.append_nil] at q
        exact After.val q g ⟨a, vs, e1.symm ▸ rfl, c1, r1⟩
    · rw [if_neg z] at q
      exact q.elim
  · exact q.elim
def iI (C : Int → Int → Bool) (k : Int → Int → D) (d e : D) (μ : Sto) : Res D := match cOf μ d, cOf μ e with
  | .int i, .int j => if C i j then .ok (k i j) μ else .bad
  | _, _ => .bad
theorem og_I {K : Gx} {C : Int → Int → Prop} {c : Int → Int → Bool} {k : Int → Int → V} {kd : Int → Int → D} (hc : ∀ i j, c i j = true → C i j) (hk : ∀ i j L M H, Rep K L M H (kd i j) (k i j)) : OpG K (rI C k) (iI c kd) := by
  intro W M0 L μ H ρ σ d e v u Q g rd re q
  unfold iI at q
  split at q
  · rename_i i j h1 h2
    by_cases z : c i j = true
    · rw [if_pos z] at q
      rw [int_of g.sr rd h1, int_of g.sr re h2]
      exact ⟨_, _, rfl, rfl, hc _ _ z, After.val q g (hk _ _ _ _ _)⟩
    · rw [if_neg z] at q
      exact q.elim
  · exact q.elim
theorem og_I0 {K : Gx} {k : Int → Int → V} {kd : Int → Int → D} (hk : ∀ i j L M H, Rep K L M H (kd i j) (k i j)) : OpG K (rI0 k) (iI (fun _ _ => true) kd) := by
  intro W M0 L μ H ρ σ d e v u Q g rd re q
  unfold iI at q
  split at q
  · rename_i i j h1 h2
    rw [int_of g.sr rd h1, int_of g.sr re h2]
    exact ⟨_, _, rfl, rfl, After.val q g (hk _ _ _ _ _)⟩
  · exact q.elim
abbrev oSub := iI (fun _ _ => true) fun i j => .int (i - j)
abbrev oMul := iI (fun i j => decide (i.natAbs.log2 + j.natAbs.log2 < 1000000)) fun i j => .int (i * j)
abbrev oDiv := iI (fun _ j => decide (0 < j) && decide (j.natAbs.log2 < 9000)) fun i j => .int (i / j)
abbrev oMod := iI (fun _ j => decide (0 < j)) fun i j => .int (i % j)
abbrev oPow := iI (fun i j => decide (0 ≤ j) && (decide (j ≤ 1000000) && decide (i.natAbs < 2 ^ 64))) fun i j => .int (i ^ j.toNat)
abbrev oLt := iI (fun _ _ => true) fun i j => .bl (decide (i < j))
abbrev oLe := iI (fun _ _ => true) fun i j => .bl (decide (i ≤ j))
abbrev oGt := iI (fun _ _ => true) fun i j => .bl (decide (j < i))
abbrev oGe := iI (fun _ _ => true) fun i j => .bl (decide (j ≤ i))
section
variable {X : Cx} {ea : Option (Addr × Option Addr)} {W : WX} {a b c : Expr} {f g h : FD} {pos : Pos}
theorem pd_add (ha : PE X a (tD (gx X ea) W f)) (hb : PE X b (tD (gx X ea) W g)) : PE X (.BinOp a .Add b pos) (tD (gx X ea) W (e2 oAdd f g)) := pd_op op_addAll og_add ha hb
theorem pd_sub (ha : PE X a (tD (gx X ea) W f)) (hb : PE X b (tD (gx X ea) W g)) : PE X (.BinOp a .Sub b pos) (tD (gx X ea) W (e2 oSub f g)) := pd_op op_sub (og_I0 fun _ _ _ _ _ => rfl) ha hb
theorem pd_mul (ha : PE X a (tD (gx X ea) W f)) (hb : PE X b (tD (gx X ea) W g)) : PE X (.BinOp a .Mult b pos) (tD (gx X ea) W (e2 oMul f g)) := pd_op op_mulW (og_I (fun i j z => show CMulW i j from (of_decide_eq_true z : i.natAbs.log2 + j.natAbs.log2 < 1000000)) fun _ _ _ _ _ => rfl) ha hb
theorem pd_div (ha : PE X a (tD (gx X ea) W f)) (hb : PE X b (tD (gx X ea) W g)) : PE X (.BinOp a .FloorDiv b pos) (tD (gx X ea) W (e2 oDiv f g)) := pd_op op_fdivW (og_I (fun _ _ z => by
  have := Bool.and_eq_true_iff.mp z
  exact ⟨of_decide_eq_true this.1, of_decide_eq_true this.2⟩) fun _ _ _ _ _ => rfl) ha hb
theorem pd_mod (ha : PE X a (tD (gx X ea) W f)) (hb : PE X b (tD (gx X ea) W g)) : PE X (.BinOp a .Mod b pos) (tD (gx X ea) W (e2 oMod f g)) := pd_op op_mod (og_I (fun _ _ z => of_decide_eq_true z) fun _ _ _ _ _ => rfl) ha hb
theorem pd_pow (ha : PE X a (tD (gx X ea) W f)) (hb : PE X b (tD (gx X ea) W g)) : PE X (.BinOp a .Pow b pos) (tD (gx X ea) W (e2 oPow f g)) := pd_op op_pow (og_I (fun _ _ z => by
  have := Bool.and_eq_true_iff.mp z
  have h2 := Bool.and_eq_true_iff.mp this.2
  exact ⟨of_decide_eq_true this.1, of_decide_eq_true h2.1, of_decide_eq_true h2.2⟩) fun _ _ _ _ _ => rfl) ha hb
theorem pd_lt (ha : PE X a (tD (gx X ea) W f)) (hb : PE X b (tD (gx X ea) W g)) : PE X (.Compare a [.Lt] [b] pos) (tD (gx X ea) W (e2 oLt f g)) := pd_cmp op_lt (og_I0 fun _ _ _ _ _ => rfl) ha hb (nomark _)
theorem pd_le (ha : PE X a (tD (gx X ea) W f)) (hb : PE X b (tD (gx X ea) W g)) : PE X (.Compare a [.LtE] [b] pos) (tD (gx X ea) W (e2 oLe f g)) := pd_cmp op_le (og_I0 fun _ _ _ _ _ => rfl) ha hb (nomark _)
theorem pd_gt (ha : PE X a (tD (gx X ea) W f)) (hb : PE X b (tD (gx X ea) W g)) : PE X (.Compare a [.Gt] [b] pos) (tD (gx X ea) W (e2 oGt f g)) := pd_cmp op_gt (og_I0 fun _ _ _ _ _ => rfl) ha hb (nomark _)
theorem pd_ge (ha : PE X a (tD (gx X ea) W f)) (hb : PE X b (tD (gx X ea) W g)) : PE X (.Compare a [.GtE] [b] pos) (tD (gx X ea) W (e2 oGe f g)) := pd_cmp op_ge (og_I0 fun _ _ _ _ _ => rfl) ha hb (nomark _)
def oNeg : D → Sto → Res D
  | .int i, μ => .ok (.int (-i)) μ
  | _, _ => .bad
theorem pd_neg (ha : PE X a (tD (gx X ea) W f)) : PE X (.UnaryOp .USub a pos) (tD (gx X ea) W (e1 oNeg f)) := pd_un un_neg (fun W M0 L μ H ρ σ d v Q g rd q => by
  cases d with
  | int i => exact ⟨i, rd, After.val q g rfl⟩
  | _ => exact q.elim) ha
/-- a chain of two comparisons of ints -/
def eChain (o1 o2 : D → D → Sto → Res D) (f g h : FD) : FD := fun ρ μ => (f ρ μ).bind fun d μ1 => (g ρ μ1).bind fun e μ2 => (o1 d e μ2).bind fun z μ3 => match z with
  | .bl true => (h ρ μ3).bind fun k μ4 => o2 e k μ4
  | .bl false => .ok (.bl false) μ3
  | _ => .bad
end
/-! data: == and != -/
mutual
def toPy : D → Option PyData
  | .non => some .none
  | .bl b => some (.bool b)
  | .int i => some (.int i)
  | .str x => some (.str x)
  | .tup l => (toPys l).map .tuple
  | .lst l => (toPys l).map .list
  | .frl l => (toPys l).map .list
  | _ => none
def toPys : List D → Option (List PyData)
  | [] => some []
  | d :: ds => match toPy d, toPys ds with
    | some p, some ps => some (p :: ps)
    | _, _ => none
end
section
variable {K : Gx} {W : WX} {M0 : Addr → Prop} {L L' : List Addr} {M M' : Addr → Prop} {H H' : Hp} {μ μ' : Sto} {ρ ρ' : Env} {σ σ' : L2.St}
mutual
theorem Rep.dp : ∀ (d : D) (v : V) (p : PyData), Rep K L M H d v → toPy d = some p → Dp K.K H v p
  | .non, v, p, h, e => by cases h; cases e; exact .non
  | .bl b, v, p, h, e => by cases h; cases e; exact .bl b
  | .int i, v, p, h, e => by cases h; cases e; exact .int i
  | .str i, v, p, h, e => by cases h; cases e; exact .str i
  | .tup l, v, p, h, e => by
    obtain ⟨a, vs, rfl, s, r⟩ := h
    unfold toPy at e
    cases z : toPys l with
    | none => rw [z] at e; cases e
    | some ps =>
      rw [z] at e
      cases e
      exact .tup s (Reps.dp l vs ps r z)
  | .lst l, v, p, h, e => by
    obtain ⟨a, vs, rfl, m, s, r⟩ := h
    unfold toPy at e
    cases z : toPys l with
    | none => rw [z] at e; cases e
    | some ps =>
      rw [z] at e
      cases e
      exact .lst (SqL.of s) (Reps.dp l vs ps r z)
  | .frl l, v, p, h, e => by
    obtain ⟨a, vs, rfl, s, r⟩ := h
    unfold toPy at e
    cases z : toPys l with
    | none => rw [z] at e; cases e
    | some ps =>
      rw [z] at e
      cases e
      exact .lst s.l (Reps.dp l vs ps r z)
  | .ref _, _, _, _, e => by cases e
  | .ty _, _, _, _, e => by cases e
  | .cls _, _, _, _, e => by cases e
  | .err _ _ _ _, _, _, _, e => by cases e
  | .own _, _, _, _, e => by cases e
  | .dK _ _, _, _, _, e => by cases e
  | .dT _ _, _, _, _, e => by cases e
  | .obj _ _ _, _, _, _, e => by cases e
theorem Reps.dp : ∀ (ds : List D) (vs : List V) (ps : List PyData), Reps K L M H ds vs → toPys ds = some ps → DpAll K.K H vs ps
  | [], vs, ps, h, e => by cases h; cases e; exact .nil
  | d :: ds, vs, ps, h, e => by
    obtain ⟨v, r, rfl, h1, h2⟩ := h
    unfold toPys at e
    cases y : toPy d with
    | none => rw [y] at e; cases e
    | some p =>
      cases z : toPys ds with
      | none => rw [y, z] at e; cases e
      | some q =>
        rw [y, z] at e
        cases e
        exact .cons (Rep.dp d v p h1 y) (Reps.dp ds r q h2 z)
end
theorem dp_of {d : D} {v : V} {p : PyData} (s : SR K M0 L μ H) (r : Rep K L (Mv M0 L μ) H d v) (h : toPy (cOf μ d) = some p) : Dp K.K H v p := by
  cases z : cOf μ d with
  | lst l =>
    rw [z] at h
    obtain ⟨a, vs, rfl, c1, c2⟩ := lst_of s r z
    unfold toPy at h
    cases y : toPys l with
    | none => rw [y] at h; cases h
    | some ps =>
      rw [y] at h
      cases h
      exact .lst (SqL.of c1) (Reps.dp l vs ps c2 y)
  | non => have := sc_of s r z (fun _ _ _ _ z => z) (fun _ z => nomatch z); subst this; rw [z] at h; exact Rep.dp _ _ _ r h
  | bl _ => have := sc_of s r z (fun _ _ _ _ z => z) (fun _ z => nomatch z); subst this; rw [z] at h; exact Rep.dp _ _ _ r h
  | int _ => have := sc_of s r z (fun _ _ _ _ z => z) (fun _ z => nomatch z); subst this; rw [z] at h; exact Rep.dp _ _ _ r h
  | str _ => have := sc_of s r z (fun _ _ _ _ z => z) (fun _ z => nomatch z); subst this; rw [z] at h; exact Rep.dp _ _ _ r h
  | tup _ => have := sc_of s r z (fun _ _ _ _ z => z) (fun _ z => nomatch z); subst this; rw [z] at h; exact Rep.dp _ _ _ r h
  | frl _ => have := sc_of s r z (fun _ _ _ _ z => z) (fun _ z => nomatch z); subst this; rw [z] at h; exact Rep.dp _ _ _ r h
  | _ => rw [z] at h; cases h
end
def strE : D → D → Option Bool
  | .str a, .str b => some (decide (a = b))
  | _, _ => none
def oEq (ng : Bool) (d e : D) (μ : Sto) : Res D := match strE d e with
  | some b => .ok (.bl (if ng then !b else b)) μ
  | none => match toPy (cOf μ d), toPy (cOf μ e) with
    | some p, some q => if SeqAt.shaped p && SeqAt.shaped q then .ok (.bl (if ng then !PyData.eqv p q else PyData.eqv p q)) μ else .bad
    | _, _ => .bad
abbrev rEqE (K : PySem.W.Frag) : R2 := fun x y H Q => rEq x y H Q ∨ rEqD K x y H Q
abbrev rNeE (K : PySem.W.Frag) : R2 := fun x y H Q => rNe x y H Q ∨ rNeD K x y H Q
theorem op_eqE {X : Cx} (hu : X.A.units + 64 < cLine) : OpR X (compareOp .Eq) (rEqE X.K) := op_eq.or (op_eqD hu)
theorem op_neE {X : Cx} (hu : X.A.units + 64 < cLine) : OpR X (compareOp .NotEq) (rNeE X.K) := op_ne.or (op_neD hu)
theorem strE_some {d e : D} {b : Bool} (h : strE d e = some b) : ∃ x y, d = .str x ∧ e = .str y ∧ b = decide (x = y) := by
  unfold strE at h
  split at h
  · rename_i x y
    cases h
    exact ⟨x, y, rfl, rfl, rfl⟩
  · cases h
theorem og_eq {K : Gx} : OpG K (rEqE K.K) (oEq false) := by
  intro W M0 L μ H ρ σ d e v u Q g rd re q
  unfold oEq at q
  cases s : strE d e with
  | some b =>
    rw [s] at q
    obtain ⟨x, y, rfl, rfl, rfl⟩ := strE_some s
    rw [show v = V.str x from rd, show u = V.str y from re]
    have hd : decide (V.str x = V.str y) = decide (x = y) := by simp
    exact .inl ⟨rfl, hd ▸ After.val q g rfl⟩
  | none =>
  rw [s] at q
  simp only at q
  split at q
  · rename_i p p' h1 h2
    by_cases z : (SeqAt.shaped p && SeqAt.shaped p') = true
    · rw [if_pos z] at q
      have := Bool.and_eq_true_iff.mp z
      exact .inr ⟨p, p', dp_of g.sr rd h1, dp_of g.sr re h2, this.1, this.2, After.val q g rfl⟩
    · rw [if_neg z] at q
      exact q.elim
  · exact q.elim
theorem og_ne {K : Gx} : OpG K (rNeE K.K) (oEq true) := by
  intro W M0 L μ H ρ σ d e v u Q g rd re q
  unfold oEq at q
  cases s : strE d e with
  | some b =>
    rw [s] at q
    obtain ⟨x, y, rfl, rfl, rfl⟩ := strE_some s
    rw [show v = V.str x from rd, show u = V.str y from re]
    have hd : decide (V.str x = V.str y) = decide (x = y) := by simp
    exact .inl ⟨rfl, hd ▸ After.val q g rfl⟩
  | none =>
  rw [s] at q
  simp only at q
  split at q
  · rename_i p p' h1 h2
    by_cases z : (SeqAt.shaped p && SeqAt.shaped p') = true
    · rw [if_pos z] at q
      have := Bool.and_eq_true_iff.mp z
      exact .inr ⟨p, p', dp_of g.sr rd h1, dp_of g.sr re h2, this.1, this.2, After.val q g rfl⟩
    · rw [if_neg z] at q
      exact q.elim
  · exact q.elim
/-! None -/
def oIsN (ng : Bool) (d e : D) (μ : Sto) : Res D := match e with
  | .non => .ok (.bl (match d with | .non => !ng | _ => ng)) μ
  | _ => .bad
theorem rep_non {K : Gx} {L : List Addr} {M : Addr → Prop} {H : Hp} {d : D} {v : V} (r : Rep K L M H d v) : decide (v = V.non) = (match d with | .non => true | _ => false) := by
  cases d with
  | non => cases r; rfl
  | bl _ => cases r; rfl
  | int _ => cases r; rfl
  | str _ => cases r; rfl
  | ref _ => cases r; rfl
  | ty _ => cases r; rfl
  | cls _ => cases r; rfl
  | err _ _ _ _ => obtain ⟨a, od, _, rfl, _⟩ := r; rfl
  | own _ => obtain ⟨a, rfl, _⟩ := r; rfl
  | tup _ => obtain ⟨a, _, rfl, _⟩ := r; rfl
  | lst _ => obtain ⟨a, _, rfl, _⟩ := r; rfl
  | frl _ => obtain ⟨a, _, rfl, _⟩ := r; rfl
  | dK _ _ => obtain ⟨a, _, rfl, _⟩ := r; rfl
  | dT _ _ => obtain ⟨a, _, rfl, _⟩ := r; rfl
  | obj _ _ _ => obtain ⟨a, _, _, rfl, _⟩ := r; rfl
theorem og_isN {K : Gx} : OpG K (fun x y H Q => y = .non ∧ Q (.bl (decide (x = .non))) H) (oIsN false) := by
  intro W M0 L μ H ρ σ d e v u Q g rd re q
  cases e with
  | non =>
    refine ⟨re, After.val q g ?_⟩
    show V.bl _ = V.bl _
    rw [rep_non rd]
    cases d <;> rfl
  | _ => exact q.elim
theorem og_notN {K : Gx} : OpG K (fun x y H Q => y = .non ∧ Q (.bl (!decide (x = .non))) H) (oIsN true) := by
  intro W M0 L μ H ρ σ d e v u Q g rd re q
  cases e with
  | non =>
    refine ⟨re, After.val q g ?_⟩
    show V.bl _ = V.bl _
    rw [rep_non rd]
    cases d <;> rfl
  | _ => exact q.elim
/-! in -/
def flatD : D → Bool
  | .non => true
  | .bl _ => true
  | .int _ => true
  | .str _ => true
  | _ => false
def eqF : D → D → Bool
  | .non, .non => true
  | .bl a, .bl b => a == b
  | .bl a, .int b => (if a then 1 else 0) == b
  | .int a, .bl b => a == (if b then 1 else 0)
  | .int a, .int b => a == b
  | .str a, .str b => a == b
  | _, _ => false
def inF (d : D) (l : List D) : Bool := l.any fun y => eqF y d
def oIn (ng : Bool) (d e : D) (μ : Sto) : Res D := match seqD μ e with
  | some l => if flatD d && l.all flatD then .ok (.bl (if ng then !inF d l else inF d l)) μ else .bad
  | none => .bad
section
variable {K : Gx} {L : List Addr} {M : Addr → Prop} {H : Hp}
theorem flat_of {d : D} {v : V} (r : Rep K L M H d v) (f : flatD d = true) : flatV v = true := by
  cases d with
  | non => cases r; rfl
  | bl _ => cases r; rfl
  | int _ => cases r; rfl
  | str _ => cases r; rfl
  | _ => cases f
theorem eqF_of {d e : D} {v u : V} (r : Rep K L M H d v) (q : Rep K L M H e u) (f : flatD d = true) (f' : flatD e = true) : eqV v u = eqF d e := by
  cases d <;> first | (cases f; done) | (cases r; cases e <;> first | (cases f'; done) | (cases q; rfl))
theorem inF_of {d : D} {v : V} (r : Rep K L M H d v) (f : flatD d = true) : ∀ {l : List D} {vs : List V}, Reps K L M H l vs → l.all flatD = true → vs.all flatV = true ∧ inV v vs = inF d l
  | [], vs, h, _ => by cases h; exact ⟨rfl, rfl⟩
  | x :: l, vs, h, f' => by
    obtain ⟨w, us, rfl, h1, h2⟩ := h
    rw [List.all_cons, Bool.and_eq_true_iff] at f'
    obtain ⟨i1, i2⟩ := inF_of r f h2 f'.2
    refine ⟨by rw [List.all_cons, flat_of h1 f'.1, i1]; rfl, ?_⟩
    unfold inV inF
    rw [List.any_cons, List.any_cons, eqF_of h1 r f'.1 f]
    unfold inV inF at i2
    rw [i2]
end
theorem og_in {K : Gx} {ng : Bool} : OpG K (rIn K.K ng) (oIn ng) := by
  intro W M0 L μ H ρ σ d e v u Q g rd re q
  unfold oIn at q
  cases z : seqD μ e with
  | none => rw [z] at q; exact q.elim
  | some l =>
    rw [z] at q
    have q' : After K W M0 ρ σ L μ H (if (flatD d && l.all flatD) = true then .ok (.bl (if ng then !inF d l else inF d l)) μ else .bad) (Wn K M0 Q) := q
    by_cases y : (flatD d && l.all flatD) = true
    · rw [if_pos y] at q'
      have y' := Bool.and_eq_true_iff.mp y
      obtain ⟨a, vs, rfl, sq, rs⟩ := seq_of g.sr re z
      obtain ⟨i1, i2⟩ := inF_of rd y'.1 rs y'.2
      refine ⟨a, vs, rfl, sq, flat_of rd y'.1, i1, After.val q' g ?_⟩
      show V.bl _ = V.bl _
      rw [i2]
    · rw [if_neg y] at q'
      exact q'.elim
/-! items -/
def oIx (d e : D) (μ : Sto) : Res D := match e with
  | .int i => match seqD μ d with
    | some l => match atI l i with
      | some x => .ok x μ
      | none => .bad
    | none => .bad
  | _ => .bad
theorem atI_rep {K : Gx} {L : List Addr} {M : Addr → Prop} {H : Hp} {l : List D} {vs : List V} {i : Int} {x : D} (r : Reps K L M H l vs) (h : atI l i = some x) : ∃ v, atI vs i = some v ∧ Rep K L M H x v := by
  unfold atI at h ⊢
  rw [← r.length]
  cases z : ixN l.length i with
  | none => rw [z] at h; cases h
  | some j =>
    rw [z] at h
    obtain ⟨v, h1, h2⟩ := r.get (show l[j]? = some x from h)
    exact ⟨v, h1, h2⟩
theorem og_ix {K : Gx} : OpG K (rIx K.K) oIx := by
  intro W M0 L μ H ρ σ d e v u Q g rd re q
  unfold oIx at q
  split at q
  · rename_i i
    split at q
    · rename_i l z
      split at q
      · rename_i x y
        obtain ⟨a, vs, rfl, sq, rs⟩ := seq_of g.sr rd z
        obtain ⟨w, h1, h2⟩ := atI_rep rs y
        rcases sq with sq | sq
        · exact .inl ⟨a, vs, i, w, rfl, re, sq, h1, After.val q g h2⟩
        · exact .inr (.inl ⟨a, vs, i, w, rfl, re, sq, h1, After.val q g h2⟩)
      · exact q.elim
    · exact q.elim
  · exact q.elim
/-! built-ins -/
def oLen : List D → Sto → Res D
  | [d], μ => match seqD μ d with
    | some l => .ok (.int l.length) μ
    | none => match d with
      | .str x => if x.length ≤ 16777216 then .ok (.int x.length) μ else .bad
      | _ => .bad
  | _, _ => .bad
def rLenA (K : PySem.W.Frag) : List V → Hp → VK → Prop := fun xs H Q => (∃ p ys, xs = [.ref p] ∧ (SqL K H p ys ∨ SqT K H p ys) ∧ Q (.int ys.length) H) ∨ (∃ z, xs = [.str z] ∧ z.length ≤ sizeLine ∧ Q (.int z.length) H)
theorem call_lenA {X : Cx} : CallR X (.builtin "len") (rLenA X.K) := call_len_seq.or call_len_str
theorem Reps.one {K : Gx} {L : List Addr} {M : Addr → Prop} {H : Hp} {d : D} {vs : List V} (h : Reps K L M H [d] vs) : ∃ v, vs = [v] ∧ Rep K L M H d v := by
  obtain ⟨v, r, rfl, h1, h2⟩ := h
  cases h2
  exact ⟨v, rfl, h1⟩
theorem Reps.two {K : Gx} {L : List Addr} {M : Addr → Prop} {H : Hp} {d e : D} {vs : List V} (h : Reps K L M H [d, e] vs) : ∃ v u, vs = [v, u] ∧ Rep K L M H d v ∧ Rep K L M H e u := by
  obtain ⟨v, r, rfl, h1, h2⟩ := h
  obtain ⟨u, rfl, h3⟩ := h2.one
  exact ⟨v, u, rfl, h1, h3⟩
theorem cg_len {K : Gx} : CaG K (rLenA K.K) oLen := by
  intro W M0 L μ H ρ σ ds vs Q g rs q
  unfold oLen at q
  split at q
  · rename_i d
    obtain ⟨v, rfl, r⟩ := rs.one
    split at q
    · rename_i l z
      obtain ⟨a, us, rfl, sq, r'⟩ := seq_of g.sr r z
      exact .inl ⟨a, us, rfl, sq, After.val q g (by show V.int _ = V.int _; rw [r'.length])⟩
    · split at q
      · rename_i x _
        by_cases z : x.length ≤ 16777216
        · rw [if_pos z] at q
          exact .inr ⟨x, by rw [show v = V.str x from r], line_le z, After.val q g rfl⟩
        · rw [if_neg z] at q
          exact q.elim
      · exact q.elim
  · exact q.elim
def blsD : List D → Option (List Bool)
  | [] => some []
  | .bl b :: ds => (blsD ds).map (b :: ·)
  | _ => none
def intsD : List D → Option (List Int)
  | [] => some []
  | .int b :: ds => (intsD ds).map (b :: ·)
  | _ => none
theorem bls_rep {K : Gx} {L : List Addr} {M : Addr → Prop} {H : Hp} : ∀ {l : List D} {vs : List V} {bs : List Bool}, Reps K L M H l vs → blsD l = some bs → vs = bs.map V.bl
  | [], _, _, h, e => by cases h; cases e; rfl
  | .bl b :: l, _, bs, h, e => by
    obtain ⟨v, r, rfl, h1, h2⟩ := h
    unfold blsD at e
    cases z : blsD l with
    | none => rw [z] at e; cases e
    | some cs =>
      rw [z] at e
      cases e
      rw [bls_rep h2 z, show v = V.bl b from h1]
      rfl
  | .non :: _, _, _, _, e | .int _ :: _, _, _, _, e | .str _ :: _, _, _, _, e | .ref _ :: _, _, _, _, e | .ty _ :: _, _, _, _, e | .cls _ :: _, _, _, _, e | .err _ _ _ _ :: _, _, _, _, e | .own _ :: _, _, _, _, e | .tup _ :: _, _, _, _, e | .lst _ :: _, _, _, _, e | .frl _ :: _, _, _, _, e | .dK _ _ :: _, _, _, _, e | .dT _ _ :: _, _, _, _, e | .obj _ _ _ :: _, _, _, _, e => by cases e
theorem ints_rep {K : Gx} {L : List Addr} {M : Addr → Prop} {H : Hp} : ∀ {l : List D} {vs : List V} {bs : List Int}, Reps K L M H l vs → intsD l = some bs → vs = bs.map V.int
  | [], _, _, h, e => by cases h; cases e; rfl
  | .int b :: l, _, bs, h, e => by
    obtain ⟨v, r, rfl, h1, h2⟩ := h
    unfold intsD at e
    cases z : intsD l with
    | none => rw [z] at e; cases e
    | some cs =>
      rw [z] at e
      cases e
      rw [ints_rep h2 z, show v = V.int b from h1]
      rfl
  | .non :: _, _, _, _, e | .bl _ :: _, _, _, _, e | .str _ :: _, _, _, _, e | .ref _ :: _, _, _, _, e | .ty _ :: _, _, _, _, e | .cls _ :: _, _, _, _, e | .err _ _ _ _ :: _, _, _, _, e | .own _ :: _, _, _, _, e | .tup _ :: _, _, _, _, e | .lst _ :: _, _, _, _, e | .frl _ :: _, _, _, _, e | .dK _ _ :: _, _, _, _, e | .dT _ _ :: _, _, _, _, e | .obj _ _ _ :: _, _, _, _, e => by cases e
/-- all([..]), any([..]) of truths in a list -/
def oAll (an : Bool) : List D → Sto → Res D
  | [d], μ => match cOf μ d with
    | .lst l => match blsD l with
      | some bs => .ok (.bl (if an then bs.any id else bs.all id)) μ
      | none => .bad
    | _ => .bad
  | _, _ => .bad
theorem cg_all {K : Gx} : CaG K (rAll K.K) (oAll false) := by
  intro W M0 L μ H ρ σ ds vs Q g rs q
  unfold oAll at q
  split at q
  · obtain ⟨v, rfl, r⟩ := rs.one
    split at q
    · rename_i l z
      split at q
      · rename_i bs y
        obtain ⟨a, us, rfl, sq, r'⟩ := lst_of g.sr r z
        rw [bls_rep r' y] at sq
        exact ⟨a, bs, rfl, SqL.of sq, After.val q g rfl⟩
      · exact q.elim
    · exact q.elim
  · exact q.elim
theorem cg_any {K : Gx} : CaG K (rAny K.K) (oAll true) := by
  intro W M0 L μ H ρ σ ds vs Q g rs q
  unfold oAll at q
  split at q
  · obtain ⟨v, rfl, r⟩ := rs.one
    split at q
    · rename_i l z
      split at q
      · rename_i bs y
        obtain ⟨a, us, rfl, sq, r'⟩ := lst_of g.sr r z
        rw [bls_rep r' y] at sq
        exact ⟨a, bs, rfl, SqL.of sq, After.val q g rfl⟩
      · exact q.elim
    · exact q.elim
  · exact q.elim
def oSum : List D → Sto → Res D
  | [d], μ => match cOf μ d with
    | .lst l => match intsD l with
      | some bs => .ok (.int bs.sum) μ
      | none => .bad
    | _ => .bad
  | _, _ => .bad
theorem cg_sum {K : Gx} : CaG K (rSum K.K) oSum := by
  intro W M0 L μ H ρ σ ds vs Q g rs q
  unfold oSum at q
  split at q
  · obtain ⟨v, rfl, r⟩ := rs.one
    split at q
    · rename_i l z
      split at q
      · rename_i bs y
        obtain ⟨a, us, rfl, sq, r'⟩ := lst_of g.sr r z
        rw [ints_rep r' y] at sq
        exact ⟨a, bs, rfl, SqL.of sq, After.val q g rfl⟩
      · exact q.elim
    · exact q.elim
  · exact q.elim
def oAbs : List D → Sto → Res D
  | [.int i], μ => .ok (.int (if i < 0 then -i else i)) μ
  | _, _ => .bad
theorem cg_abs {K : Gx} : CaG K (fun xs H Q => ∃ i, xs = [.int i] ∧ Q (.int (if i < 0 then -i else i)) H) oAbs := by
  intro W M0 L μ H ρ σ ds vs Q g rs q
  unfold oAbs at q
  split at q
  · obtain ⟨v, rfl, r⟩ := rs.one
    rw [show v = V.int _ from r]
    exact ⟨_, rfl, After.val q g rfl⟩
  · exact q.elim
def oMax2 : List D → Sto → Res D
  | [.int i, .int j], μ => .ok (.int (if j > i then j else i)) μ
  | _, _ => .bad
def oMin2 : List D → Sto → Res D
  | [.int i, .int j], μ => .ok (.int (if j < i then j else i)) μ
  | _, _ => .bad
theorem cg_max2 {K : Gx} : CaG K (fun xs H Q => ∃ i j, xs = [.int i, .int j] ∧ Q (.int (if j > i then j else i)) H) oMax2 := by
  intro W M0 L μ H ρ σ ds vs Q g rs q
  unfold oMax2 at q
  split at q
  · obtain ⟨v, u, rfl, r1, r2⟩ := rs.two
    rw [show v = V.int _ from r1, show u = V.int _ from r2]
    exact ⟨_, _, rfl, After.val q g rfl⟩
  · exact q.elim
theorem cg_min2 {K : Gx} : CaG K (fun xs H Q => ∃ i j, xs = [.int i, .int j] ∧ Q (.int (if j < i then j else i)) H) oMin2 := by
  intro W M0 L μ H ρ σ ds vs Q g rs q
  unfold oMin2 at q
  split at q
  · obtain ⟨v, u, rfl, r1, r2⟩ := rs.two
    rw [show v = V.int _ from r1, show u = V.int _ from r2]
    exact ⟨_, _, rfl, After.val q g rfl⟩
  · exact q.elim
def oInt : List D → Sto → Res D
  | [.int i], μ => .ok (.int i) μ
  | [.bl b], μ => .ok (.int (if b then 1 else 0)) μ
  | _, _ => .bad
theorem cg_int {K : Gx} : CaG K (fun xs H Q => (∃ i, xs = [.int i] ∧ Q (.int i) H) ∨ ∃ k, xs = [.bl k] ∧ Q (.int (if k then 1 else 0)) H) oInt := by
  intro W M0 L μ H ρ σ ds vs Q g rs q
  unfold oInt at q
  split at q
  · obtain ⟨v, rfl, r⟩ := rs.one
    rw [show v = V.int _ from r]
    exact .inl ⟨_, rfl, After.val q g rfl⟩
  · obtain ⟨v, rfl, r⟩ := rs.one
    rw [show v = V.bl _ from r]
    exact .inr ⟨_, rfl, After.val q g rfl⟩
  · exact q.elim
end DL
end

section
set_option Elab.async false
set_option linter.all false
set_option autoImplicit false
set_option maxRecDepth 100000
set_option maxHeartbeats 1000000
namespace DL
open PySem PySem.Spec PyProof.Rows L2
/-! while -/
def whN (t : Env → Sto → Res Bool) (g : FS) : Nat → Env → Sto → Out
  | 0, _, _ => .bad
  | n + 1, ρ, μ => (t ρ μ).out ρ fun b μ1 => if b then (match g ρ μ1 with
      | .nx ρ2 μ2 => whN t g n ρ2 μ2
      | .ct ρ2 μ2 => whN t g n ρ2 μ2
      | .bk ρ2 μ2 => .nx ρ2 μ2
      | o => o) else .nx ρ μ1
theorem whN_succ {t : Env → Sto → Res Bool} {g : FS} : ∀ (n : Nat) (ρ : Env) (μ : Sto), whN t g n ρ μ ≠ .bad → whN t g (n + 1) ρ μ = whN t g n ρ μ
  | 0, ρ, μ, h => absurd rfl h
  | n + 1, ρ, μ, h => by
    rw [whN]
    conv => rhs; rw [whN]
    rw [whN] at h
    cases r : t ρ μ with
    | ok b μ1 =>
      rw [r] at h
      simp only [Res.out] at h ⊢
      cases b with
      | true =>
        simp only [if_true] at h ⊢
        cases q : g ρ μ1 with
        | nx ρ2 μ2 => rw [q] at h; exact whN_succ n ρ2 μ2 h
        | ct ρ2 μ2 => rw [q] at h; exact whN_succ n ρ2 μ2 h
        | _ => rfl
      | false => rfl
    | ex x μ1 => rfl
    | bad => rfl
theorem whN_add {t : Env → Sto → Res Bool} {g : FS} (n : Nat) (ρ : Env) (μ : Sto) (h : whN t g n ρ μ ≠ .bad) : ∀ k, whN t g (n + k) ρ μ = whN t g n ρ μ
  | 0 => rfl
  | k + 1 => by
    have ih := whN_add n ρ μ h k
    rw [← Nat.add_assoc, whN_succ _ ρ μ (by rw [ih]; exact h), ih]
open Classical in
noncomputable def sWh (t : Env → Sto → Res Bool) (g : FS) : FS := fun ρ μ => if h : ∃ n, whN t g n ρ μ ≠ .bad then whN t g (choose h) ρ μ else .bad
theorem sWh_of {t : Env → Sto → Res Bool} {g : FS} {n : Nat} {ρ : Env} {μ : Sto} {o : Out} (h : whN t g n ρ μ = o) (hb : o ≠ .bad) : sWh t g ρ μ = o := by
  have ex : ∃ n, whN t g n ρ μ ≠ .bad := ⟨n, by rw [h]; exact hb⟩
  unfold sWh
  rw [dif_pos ex]
  have c := Classical.choose_spec ex
  have h1 := whN_add n ρ μ (by rw [h]; exact hb) (Classical.choose ex)
  have h2 := whN_add (Classical.choose ex) ρ μ c n
  rw [← h, ← h1, ← h2, Nat.add_comm]
theorem sWh_step {t : Env → Sto → Res Bool} {g : FS} {ρ ρ2 : Env} {μ μ1 μ2 : Sto} {o : Out} (h1 : t ρ μ = .ok true μ1) (h2 : g ρ μ1 = .nx ρ2 μ2) (h3 : sWh t g ρ2 μ2 = o) (hb : o ≠ .bad) : sWh t g ρ μ = o := by
  unfold sWh at h3
  split at h3
  · rename_i ex
    refine sWh_of (n := Classical.choose ex + 1) ?_ hb
    rw [whN, h1]
    simp only [Res.out, if_true, h2]
    exact h3
  · exact absurd h3.symm hb
theorem sWh_end {t : Env → Sto → Res Bool} {g : FS} {ρ : Env} {μ μ1 : Sto} (h1 : t ρ μ = .ok false μ1) : sWh t g ρ μ = .nx ρ μ1 := sWh_of (n := 1) (by rw [whN, h1]; rfl) (fun z => nomatch z)
/-! loops over items -/
abbrev Kp := Option (Nat × D)
def kpOk : Kp → Sto → Prop
  | none, _ => True
  | some (n, d), μ => μ[n]? = some (some d)
abbrev Tg := D → Env → Sto → Option Env
open Classical in
noncomputable def forL (tg : Tg) (g : FS) (kp : Kp) : List D → Env → Sto → Out
  | [], ρ, μ => .nx ρ μ
  | d :: ds, ρ, μ => match tg d ρ μ with
    | none => .bad
    | some ρ1 => match g ρ1 μ with
      | .nx ρ2 μ2 => if kpOk kp μ2 then forL tg g kp ds ρ2 μ2 else .bad
      | .ct ρ2 μ2 => if kpOk kp μ2 then forL tg g kp ds ρ2 μ2 else .bad
      | .bk ρ2 μ2 => .nx ρ2 μ2
      | o => o
abbrev FI := Env → Sto → Res (List D × Kp)
noncomputable def sFor (fi : FI) (tg : Tg) (g : FS) : FS := fun ρ μ => (fi ρ μ).out ρ fun p μ1 => forL tg g p.2 p.1 ρ μ1
structure ItR (K : Gx) (M0 : Addr → Prop) (L : List Addr) (μ : Sto) (H : Hp) (J : It) (ds : List D) (kp : Kp) : Prop where
  ini : kpOk kp μ
  go : ∀ M1 L' μ' H', (∀ a, M0 a → M1 a) → SR K M1 L' μ' H' → Ch L μ H L' μ' H' → (∀ a, H a ≠ none → M1 a → M0 a) → kpOk kp μ' → ∀ i d, ds[i]? = some d → J.go i H' ∧ ∀ x H'', J.yld i H' x H'' → (SR K M1 L' μ' H'' ∧ Ch L' μ' H' L' μ' H'' ∧ ∀ a, H' a ≠ none → H'' a = H' a) ∧ Rep K L' (Mv M1 L' μ') H'' d x
  stop : ∀ M1 L' μ' H', (∀ a, M0 a → M1 a) → SR K M1 L' μ' H' → Ch L μ H L' μ' H' → (∀ a, H a ≠ none → M1 a → M0 a) → kpOk kp μ' → ∀ i, ds.length ≤ i → J.stop i H'
def tI (K : Gx) (W : WX) (fi : FI) : TI := fun σ H R => ∃ M0 L μ ρ, Good K M0 L μ H ρ σ ∧ After K W M0 ρ σ L μ H (fi ρ μ) fun p L' μ' H' => ∀ J, ItR K M0 L' μ' H' J p.1 p.2 → R J H'
def TgOk (K : Gx) (tg : Tg) (vs : List Nat) (g : TG) : Prop := ∀ M0 L μ H ρ σ d v Q, Good K M0 L μ H ρ σ → Rep K L (Mv M0 L μ) H d v →
  (match tg d ρ μ with
    | some ρ' => ∀ σ', Good K M0 L μ H ρ' σ' → σ'.length = σ.length → (∀ j, j ∉ vs → σ'[j]? = σ[j]?) → Q σ' H
    | none => False) → g v σ H Q
def gN (i : Nat) : Tg := fun d ρ _ => some (ρ.set i (some d))
def gL : List Tg → List D → Env → Sto → Option Env
  | [], [], ρ, _ => some ρ
  | t :: ts, d :: ds, ρ, μ => (t d ρ μ).bind fun ρ1 => gL ts ds ρ1 μ
  | _, _, _, _ => none
def gT (ts : List Tg) : Tg := fun d ρ μ => match cOf μ d with
  | .tup l => gL ts l ρ μ
  | _ => none
theorem tk_name {K : Gx} {i : Nat} : TgOk K (gN i) [i] (gName i) := fun M0 L μ H ρ σ d v Q g r q => q _ (g.set r) (by simp) fun j hj => by
  rw [List.getElem?_set_ne (fun z => hj (by simp [z]))]
/-- several targets -/
def TgsOk (K : Gx) (ts : List Tg) (vs : List Nat) (g : TGs) : Prop := ∀ M0 L μ H ρ σ ds us Q, Good K M0 L μ H ρ σ → Reps K L (Mv M0 L μ) H ds us →
  (match gL ts ds ρ μ with
    | some ρ' => ∀ σ', Good K M0 L μ H ρ' σ' → σ'.length = σ.length → (∀ j, j ∉ vs → σ'[j]? = σ[j]?) → Q σ' H
    | none => False) → g us σ H Q
theorem tks_nil {K : Gx} : TgsOk K [] [] gNil := fun M0 L μ H ρ σ ds us Q g r q => by
  cases ds with
  | nil =>
    cases r
    exact ⟨rfl, q σ g rfl fun _ _ => rfl⟩
  | cons _ _ => exact q.elim
theorem tks_cons {K : Gx} {t : Tg} {ts : List Tg} {vs ws : List Nat} {g : TG} {u : TGs} (h1 : TgOk K t vs g) (h2 : TgsOk K ts ws u) : TgsOk K (t :: ts) (vs ++ ws) (gCons g u) := fun M0 L μ H ρ σ ds us Q gd r q => by
  cases ds with
  | nil => exact q.elim
  | cons d ds =>
    obtain ⟨v, r', rfl, r1, r2⟩ := r
    refine ⟨v, r', rfl, h1 M0 L μ H ρ σ d v _ gd r1 ?_⟩
    unfold gL at q
    cases z : t d ρ μ with
    | none => rw [z] at q; exact q.elim
    | some ρ1 =>
      rw [z] at q
      intro σ1 g1 l1 s1
      refine h2 M0 L μ H ρ1 σ1 ds r' Q g1 r2 ?_
      have q' : match gL ts ds ρ1 μ with
        | some ρ' => ∀ σ', Good K M0 L μ H ρ' σ' → σ'.length = σ.length → (∀ j, j ∉ vs ++ ws → σ'[j]? = σ[j]?) → Q σ' H
        | none => False := q
      cases y : gL ts ds ρ1 μ with
      | none => rw [y] at q'; exact q'.elim
      | some ρ2 =>
        rw [y] at q'
        exact fun σ2 g2 l2 s2 => q' σ2 g2 (l2.trans l1) fun j hj => by
          rw [List.mem_append, not_or] at hj
          rw [s2 j hj.2, s1 j hj.1]
theorem tk_tup {K : Gx} {ts : List Tg} {vs : List Nat} {u : TGs} (h : TgsOk K ts vs u) (hl : ∀ ds ρ μ, gL ts ds ρ μ ≠ none → ds.length = ts.length) : TgOk K (gT ts) vs (gTup K.K ts.length u) := fun M0 L μ H ρ σ d v Q gd r q => by
  unfold gT at q
  cases z : cOf μ d with
  | tup l =>
    rw [z] at q
    obtain ⟨a, us, rfl, sq, rs⟩ := tup_of gd.sr r z
    have q' : match gL ts l ρ μ with
        | some ρ' => ∀ σ', Good K M0 L μ H ρ' σ' → σ'.length = σ.length → (∀ j, j ∉ vs → σ'[j]? = σ[j]?) → Q σ' H
        | none => False := q
    refine ⟨a, us, rfl, sq, ?_, h M0 L μ H ρ σ l us Q gd rs q'⟩
    rw [← rs.length]
    refine hl l ρ μ fun y => ?_
    rw [y] at q'
    exact q'
  | _ => rw [z] at q; exact q.elim
theorem gL_len : ∀ (ts : List Tg) (ds : List D) (ρ : Env) (μ : Sto), gL ts ds ρ μ ≠ none → ds.length = ts.length
  | [], [], _, _, _ => rfl
  | [], _ :: _, _, _, h => absurd rfl h
  | _ :: _, [], _, _, h => absurd rfl h
  | t :: ts, d :: ds, ρ, μ, h => by
    unfold gL at h
    cases z : t d ρ μ with
    | none => rw [z] at h; exact absurd rfl h
    | some ρ1 =>
      rw [z] at h
      simp [gL_len ts ds ρ1 μ h]
theorem tk_tup' {K : Gx} {ts : List Tg} {vs : List Nat} {u : TGs} (h : TgsOk K ts vs u) : TgOk K (gT ts) vs (gTup K.K ts.length u) := tk_tup h fun ds ρ μ => gL_len ts ds ρ μ
section
variable {X : Cx} {ea : Option (Addr × Option Addr)} {W : WX} {tg iter e c : Expr} {body : List Stmt} {g : FS} {f : FD} {pos : Pos} {t : Env → Sto → Res Bool}
theorem sd_wh (hp : PassesOwn (model X.prog X.w) X.A X.env X.xe) (hc : PT X c (tDT (gx X ea) W t)) (hb : PSs X body (tS (gx X ea) W g)) : PS X (.While c body [] pos) (tS (gx X ea) W (sWh t g)) := psI (ps_while hp hc hb) fun E σ H ⟨M0, L, μ, ρ, gd, q⟩ => by
  unfold sWh at q
  split at q
  · rename_i ex
    refine ⟨fun m σ H => ∃ L μ ρ, Good (gx X ea) M0 L μ H ρ σ ∧ AfterS (gx X ea) W M0 L μ H (whN t g m ρ μ) E, ⟨Classical.choose ex, L, μ, ρ, gd, q⟩, ?_⟩
    rintro m σ H ⟨L, μ, ρ, gd, q⟩
    cases m with
    | zero => exact q.elim
    | succ m =>
      rw [whN] at q
      refine ⟨M0, L, μ, ρ, gd, Res.after gd q fun b L1 μ1 H1 g1 c1 q1 => ?_⟩
      cases b with
      | false =>
        refine iteF ?_
        exact AfterS.nx' g1 q1 g1
      | true =>
        refine iteT ?_
        refine ⟨fun σ' H' => ∃ L μ ρ, Good (gx X ea) M0 L μ H' ρ σ' ∧ AfterS (gx X ea) W M0 L μ H' (whN t g m ρ μ) E, fun σ' H' z => ⟨m, Nat.lt_succ_self m, z⟩, M0, L1, μ1, ρ, g1, ?_⟩
        simp only [if_true] at q1
        cases z : g ρ μ1 with
        | nx ρ2 μ2 => rw [z] at q1; exact fun σ' L' H' g' c' => ⟨L', μ2, ρ2, g', AfterS.rebase g1 g' c' q1⟩
        | ct ρ2 μ2 => rw [z] at q1; exact fun σ' L' H' g' c' => ⟨L', μ2, ρ2, g', AfterS.rebase g1 g' c' q1⟩
        | bk ρ2 μ2 => rw [z] at q1; exact q1
        | rt _ _ => rw [z] at q1; exact q1
        | ex _ _ _ => rw [z] at q1; exact q1
        | bad => rw [z] at q1; exact q1
  · exact q.elim
theorem AfterS.kp {M0 : Addr → Prop} {L : List Addr} {μ : Sto} {H : Hp} {o : Out} {E : Ends} {p : Prop} [Decidable p] {K : Gx} {W : WX} (h : AfterS K W M0 L μ H (if p then o else .bad) E) : p ∧ AfterS K W M0 L μ H o E := by
  by_cases z : p
  · rw [if_pos z] at h
    exact ⟨z, h⟩
  · rw [if_neg z] at h
    exact h.elim
open Classical in
theorem sd_for {fi : FI} {gg : TG} {tgf : Tg} {vs : List Nat} (hp : PassesOwn (model X.prog X.w) X.A X.env X.xe) (hc : X.calm = true) (hi : PI X tg iter (tI (gx X ea) W fi)) (hg : PG X tg gg) (ht : TgOk (gx X ea) tgf vs gg) (hb : PSs X body (tS (gx X ea) W g))
    (hs : ∀ x, foldedSetIterable iter X.env x = pure x := by intro _; rfl) : PS X (.For tg iter body [] pos) (tS (gx X ea) W (sFor fi tgf g)) := psI (ps_for hp hc hi hg hb hs) fun E σ H ⟨M0, L, μ, ρ, gd, q⟩ => by
  refine ⟨M0, L, μ, ρ, gd, Res.after gd q fun p L1 μ1 H1 g1 c1 q1 J hJ => ?_⟩
  refine ⟨fun i m σ H => m = p.1.length - i ∧ ∃ L μ ρ, Good (gx X ea) M0 L μ H ρ σ ∧ Ch L1 μ1 H1 L μ H ∧ kpOk p.2 μ ∧ i ≤ p.1.length ∧ AfterS (gx X ea) W M0 L μ H (forL tgf g p.2 (p.1.drop i) ρ μ) E, ⟨_, rfl, L1, μ1, ρ, g1, Ch.refl _ _ _, hJ.ini, Nat.zero_le _, q1⟩, ?_⟩
  rintro i m σ H ⟨rfl, L, μ, ρ, gd, ch, kp, hi, q⟩
  by_cases hlt : i < p.1.length
  · have e : p.1[i]? = some p.1[i] := List.getElem?_eq_getElem hlt
    have go := hJ.go M0 L μ H (fun _ z => z) gd.sr ch (fun _ _ z => z) kp i _ e
    refine .inr ⟨go.1, fun σ' H' => ∃ L μ ρ, Good (gx X ea) M0 L μ H' ρ σ' ∧ Ch L1 μ1 H1 L μ H' ∧ kpOk p.2 μ ∧ AfterS (gx X ea) W M0 L μ H' (forL tgf g p.2 (p.1.drop (i + 1)) ρ μ) E, fun σ' H' ⟨L, μ, ρ, a1, a2, a3, a4⟩ => ⟨p.1.length - (i + 1), by omega, rfl, L, μ, ρ, a1, a2, a3, hlt, a4⟩, fun x H' y => ?_⟩
    obtain ⟨⟨s2, c2, _⟩, rx⟩ := go.2 x H' y
    have g2 := gd.step s2 c2
    refine ht M0 L μ H' ρ σ _ x _ g2 rx ?_
    rw [List.drop_eq_getElem_cons hlt, forL] at q
    cases z : tgf p.1[i] ρ μ with
    | none => rw [z] at q; exact q
    | some ρ1 =>
      rw [z] at q
      intro σ1 g3 l3 s3
      refine ⟨M0, L, μ, ρ1, g3, ?_⟩
      simp only at q
      have ch2 := g1.trans gd ch c2
      cases y : g ρ1 μ with
      | nx ρ2 μ2 =>
        rw [y] at q
        obtain ⟨k2, q2⟩ := AfterS.kp (AfterS.rebase gd g2 c2 q)
        exact fun σ' L' H'' g' c' => ⟨L', μ2, ρ2, g', g1.trans g3 ch2 c', k2, AfterS.rebase g3 g' c' q2⟩
      | ct ρ2 μ2 =>
        rw [y] at q
        obtain ⟨k2, q2⟩ := AfterS.kp (AfterS.rebase gd g2 c2 q)
        exact fun σ' L' H'' g' c' => ⟨L', μ2, ρ2, g', g1.trans g3 ch2 c', k2, AfterS.rebase g3 g' c' q2⟩
      | bk ρ2 μ2 => rw [y] at q; exact AfterS.rebase (o := .nx ρ2 μ2) gd g2 c2 q
      | rt _ _ => rw [y] at q; exact AfterS.rebase gd g2 c2 q
      | ex _ _ _ => rw [y] at q; exact AfterS.rebase gd g2 c2 q
      | bad => rw [y] at q; exact q
  · have e : i = p.1.length := by omega
    subst e
    rw [List.drop_length, forL] at q
    exact .inl ⟨hJ.stop M0 L μ H (fun _ z => z) gd.sr ch (fun _ _ z => z) kp _ (Nat.le_refl _), AfterS.nx' gd q gd⟩
/-! what is walked -/
theorem piI {ti ti' : TI} (h : PI X tg iter ti) (i : ∀ σ H R, ti' σ H R → ti σ H R) : PI X tg iter ti' := ⟨fun pins s σ H R I q => h.run pins s σ H R I (i _ _ _ q)⟩
theorem pi_seq {tl : TE} (hl : PE X iter tl) : PI X tg iter (fun σ H R => tl σ H fun x H1 => ∃ a, x = .ref a ∧ (((∃ xs, SqL X.K H1 a xs) ∧ R (Itl X.K a) H1) ∨ ((∃ xs, SqT X.K H1 a xs) ∧ R (Itt X.K a) H1))) := by
  refine ⟨fun pins s σ H R I h => ?_⟩
  refine thn (hl.run pins s σ H _ I h) fun v s1 ⟨x, H1, I1, r1, q1⟩ => ?_
  obtain ⟨a, ea, q⟩ := q1
  subst ea
  cases r1
  rcases q with ⟨⟨xs, hq⟩, q⟩ | ⟨⟨xs, hq⟩, q⟩
  · obtain ⟨its, rv, p, hz⟩ := I1.list hq
    refine wpAny_pyIter_list p.isList ?_
    refine ⟨s1.heap.objs.size, [s1.heap.objs.size], _, _, H1, rfl, I1.kept (t' := s1.toks) fun b o e => Heap.get?_push_of_some _ e, turn_list a _, ⟨_, Heap.get?_push_size _ rfl, rfl, rfl⟩, fun b hb => ?_, q⟩
    have e : b = s1.heap.objs.size := by simpa using hb
    subst e
    exact I1.fpOk (Nat.le_refl _) (I1.hok.fresh (Nat.le_refl _))
  · obtain ⟨its, rv, p, hz⟩ := I1.tuple hq
    refine wpAny_pyIter_tuple (show s1.heap.IsTuple a its.toArray from p) ?_
    refine ⟨s1.heap.objs.size, [s1.heap.objs.size], _, _, H1, rfl, I1.kept (t' := s1.toks) fun b o e => Heap.get?_push_of_some _ e, turn_tuple a _, ⟨_, Heap.get?_push_size _ rfl, rfl, rfl⟩, fun b hb => ?_, q⟩
    have e : b = s1.heap.objs.size := by simpa using hb
    subst e
    exact I1.fpOk (Nat.le_refl _) (I1.hok.fresh (Nat.le_refl _))
def fiSeq (f : FD) : FI := fun ρ μ => (f ρ μ).bind fun d μ' => match d with
  | .own n => (match μ'[n]? with
    | some (some (.lst l)) => .ok (l, some (n, .lst l)) μ'
    | _ => .bad)
  | .lst l => .ok (l, none) μ'
  | .tup l => .ok (l, none) μ'
  | .frl l => .ok (l, none) μ'
  | _ => .bad
section
variable {K : Gx} {M0 M1 : Addr → Prop} {L L' : List Addr} {H H' : Hp} {μ μ' : Sto} {a : Addr}
theorem Rep.mono1 {d : D} {v : V} (r : Rep K L (Mv M0 L μ) H d v) (len : L.length = μ.length) (c : Ch L μ H L' μ' H') (h : ∀ a, H a ≠ none → M1 a → M0 a) : Rep K L' (Mv M1 L' μ') H' d v := by
  refine Rep.mono0 c.pre' (fun b hb m => ?_) (fun a o m e => c.frame a o (fun l => m (.inl l)) e) c.tups c.frzs d v r
  rcases m with m | m
  · exact .inl (c.back len m hb)
  · exact .inr (h b hb m)
theorem itl_val {ds : List D} (s : SR K M0 L μ H) (r : Rep K L (Mv M0 L μ) H (.lst ds) (.ref a)) : ItR K M0 L μ H (Itl K.K a) ds none := by
  have at' : ∀ M1 L' μ' H', SR K M1 L' μ' H' → Ch L μ H L' μ' H' → (∀ a, H a ≠ none → M1 a → M0 a) → ∃ vs, H' a = some (.lst vs) ∧ Reps K L' (Mv M1 L' μ') H' ds vs := fun M1 L' μ' H' s' c hm => by
    obtain ⟨b, vs, e, _, h1, h2⟩ := r.mono1 s.len c hm
    cases e
    exact ⟨vs, h1, h2⟩
  refine ⟨trivial, fun M1 L' μ' H' _ s' c hm _ i d e => ?_, fun M1 L' μ' H' _ s' c hm _ i e => ?_⟩
  · obtain ⟨vs, h1, h2⟩ := at' M1 L' μ' H' s' c hm
    obtain ⟨v, e1, rv⟩ := h2.get e
    refine ⟨⟨vs, v, SqL.of h1, e1⟩, fun x H'' y => ?_⟩
    obtain ⟨rfl, y2⟩ := y
    have := y2 vs (SqL.of h1)
    rw [e1] at this
    cases this
    exact ⟨⟨s', Ch.refl _ _ _, fun _ _ => rfl⟩, rv⟩
  · obtain ⟨vs, h1, h2⟩ := at' M1 L' μ' H' s' c hm
    exact ⟨vs, SqL.of h1, by rw [← h2.length]; exact e⟩
theorem itl_own {ds : List D} {n : Nat} (s : SR K M0 L μ H) (ha : L[n]? = some a) (hn : μ[n]? = some (some (.lst ds))) : ItR K M0 L μ H (Itl K.K a) ds (some (n, .lst ds)) := by
  have at' : ∀ M1 L' μ' H', SR K M1 L' μ' H' → Ch L μ H L' μ' H' → kpOk (some (n, .lst ds)) μ' → ∃ vs, H' a = some (.lst vs) ∧ Reps K L' (Mv M1 L' μ') H' ds vs := fun M1 L' μ' H' s' c k => by
    obtain ⟨b, e, vs, h1, h2⟩ := s'.cont n _ k
    obtain ⟨t, rfl, _⟩ := c.pre
    rw [List.getElem?_append_left (List.getElem?_eq_some_iff.mp ha).1, ha] at e
    cases e
    exact ⟨vs, h1, h2⟩
  refine ⟨hn, fun M1 L' μ' H' _ s' c hm k i d e => ?_, fun M1 L' μ' H' _ s' c hm k i e => ?_⟩
  · obtain ⟨vs, h1, h2⟩ := at' M1 L' μ' H' s' c k
    obtain ⟨v, e1, rv⟩ := h2.get e
    refine ⟨⟨vs, v, SqL.of h1, e1⟩, fun x H'' y => ?_⟩
    obtain ⟨rfl, y2⟩ := y
    have := y2 vs (SqL.of h1)
    rw [e1] at this
    cases this
    exact ⟨⟨s', Ch.refl _ _ _, fun _ _ => rfl⟩, rv⟩
  · obtain ⟨vs, h1, h2⟩ := at' M1 L' μ' H' s' c k
    exact ⟨vs, SqL.of h1, by rw [← h2.length]; exact e⟩
theorem itl_frl {ds : List D} (s : SR K M0 L μ H) (r : Rep K L (Mv M0 L μ) H (.frl ds) (.ref a)) : ItR K M0 L μ H (Itl K.K a) ds none := by
  have at' : ∀ M1 L' μ' H', SR K M1 L' μ' H' → Ch L μ H L' μ' H' → (∀ a, H a ≠ none → M1 a → M0 a) → ∃ vs, SqL K.K H' a vs ∧ Reps K L' (Mv M1 L' μ') H' ds vs := fun M1 L' μ' H' s' c hm => by
    obtain ⟨b, vs, e, h1, h2⟩ := r.mono1 s.len c hm
    cases e
    exact ⟨vs, h1.l, h2⟩
  refine ⟨trivial, fun M1 L' μ' H' _ s' c hm _ i d e => ?_, fun M1 L' μ' H' _ s' c hm _ i e => ?_⟩
  · obtain ⟨vs, h1, h2⟩ := at' M1 L' μ' H' s' c hm
    obtain ⟨v, e1, rv⟩ := h2.get e
    refine ⟨⟨vs, v, h1, e1⟩, fun x H'' y => ?_⟩
    obtain ⟨rfl, y2⟩ := y
    have := y2 vs h1
    rw [e1] at this
    cases this
    exact ⟨⟨s', Ch.refl _ _ _, fun _ _ => rfl⟩, rv⟩
  · obtain ⟨vs, h1, h2⟩ := at' M1 L' μ' H' s' c hm
    exact ⟨vs, h1, by rw [← h2.length]; exact e⟩
theorem itt_tup {ds : List D} (s : SR K M0 L μ H) (r : Rep K L (Mv M0 L μ) H (.tup ds) (.ref a)) : ItR K M0 L μ H (Itt K.K a) ds none := by
  have at' : ∀ M1 L' μ' H', SR K M1 L' μ' H' → Ch L μ H L' μ' H' → (∀ a, H a ≠ none → M1 a → M0 a) → ∃ vs, SqT K.K H' a vs ∧ Reps K L' (Mv M1 L' μ') H' ds vs := fun M1 L' μ' H' s' c hm => by
    obtain ⟨b, vs, e, h1, h2⟩ := r.mono1 s.len c hm
    cases e
    exact ⟨vs, h1, h2⟩
  refine ⟨trivial, fun M1 L' μ' H' _ s' c hm _ i d e => ?_, fun M1 L' μ' H' _ s' c hm _ i e => ?_⟩
  · obtain ⟨vs, h1, h2⟩ := at' M1 L' μ' H' s' c hm
    obtain ⟨v, e1, rv⟩ := h2.get e
    refine ⟨⟨vs, v, h1, e1⟩, fun x H'' y => ?_⟩
    obtain ⟨rfl, y2⟩ := y
    have := y2 vs h1
    rw [e1] at this
    cases this
    exact ⟨⟨s', Ch.refl _ _ _, fun _ _ => rfl⟩, rv⟩
  · obtain ⟨vs, h1, h2⟩ := at' M1 L' μ' H' s' c hm
    exact ⟨vs, h1, by rw [← h2.length]; exact e⟩
theorem itr_rng {lo : Int} {n : Nat} {ds : List D} (hd : ds = (List.range n).map fun k : Nat => D.int (lo + (k : Int))) : ItR K M0 L μ H (Itr lo n) ds none := by
  subst hd
  refine ⟨trivial, fun M1 L' μ' H' _ s' c hm _ i d e => ?_, fun M1 L' μ' H' _ s' c hm _ i e => ?_⟩
  · rw [List.getElem?_map] at e
    have hi : i < n := by
      cases z : (List.range n)[i]? with
      | none => rw [z] at e; simp at e
      | some k =>
        have := (List.getElem?_eq_some_iff.mp z).1
        simpa using this
    rw [List.getElem?_range hi] at e
    cases e
    refine ⟨hi, fun x H'' y => ?_⟩
    obtain ⟨rfl, rfl⟩ := y
    exact ⟨⟨s', Ch.refl _ _ _, fun _ _ => rfl⟩, rfl⟩
  · simp at e
    exact e
theorem its_str {x : Str} {ds : List D} (hd : ds = x.cps.toList.map fun c => D.str ⟨#[c]⟩) : ItR K M0 L μ H (Its x) ds none := by
  subst hd
  refine ⟨trivial, fun M1 L' μ' H' _ s' c hm _ i d e => ?_, fun M1 L' μ' H' _ s' c hm _ i e => ?_⟩
  · rw [List.getElem?_map, Array.getElem?_toList] at e
    cases z : x.cps[i]? with
    | none => rw [z] at e; simp at e
    | some k =>
      rw [z] at e
      cases e
      refine ⟨(Array.getElem?_eq_some_iff.mp z).1, fun y H'' q => ?_⟩
      obtain ⟨rfl, c', e1, rfl⟩ := q
      rw [z] at e1
      cases e1
      exact ⟨⟨s', Ch.refl _ _ _, fun _ _ => rfl⟩, rfl⟩
  · show x.cps.size ≤ i
    simpa using e
end
theorem id_seq (hl : PE X iter (tD (gx X ea) W f)) : PI X tg iter (tI (gx X ea) W (fiSeq f)) := piI (pi_seq hl) fun σ H R ⟨M0, L, μ, ρ, gd, q⟩ =>
  ⟨M0, L, μ, ρ, gd, q.bind gd fun d L1 μ1 H1 g1 c1 q1 v rv => by
    cases d with
    | own n =>
      obtain ⟨a, rfl, ha⟩ := rv
      simp only at q1
      split at q1
      · rename_i l z
        obtain ⟨b, e, vs, h1, h2⟩ := g1.sr.cont n _ z
        rw [ha] at e
        cases e
        exact ⟨a, rfl, .inl ⟨⟨vs, SqL.of h1⟩, After.now q1 g1 _ (itl_own g1.sr ha z)⟩⟩
      · exact q1.elim
    | lst l =>
      obtain ⟨a, vs, rfl, h0, h1, h2⟩ := id rv
      exact ⟨a, rfl, .inl ⟨⟨vs, SqL.of h1⟩, After.now q1 g1 _ (itl_val g1.sr rv)⟩⟩
    | frl l =>
      obtain ⟨a, vs, rfl, h1, h2⟩ := id rv
      exact ⟨a, rfl, .inl ⟨⟨vs, h1.l⟩, After.now q1 g1 _ (itl_frl g1.sr rv)⟩⟩
    | tup l =>
      obtain ⟨a, vs, rfl, h1, h2⟩ := id rv
      exact ⟨a, rfl, .inr ⟨⟨vs, h1⟩, After.now q1 g1 _ (itt_tup g1.sr rv)⟩⟩
    | _ => exact q1.elim⟩
def rngD (lo : Int) (n : Nat) : List D := (List.range n).map fun k : Nat => D.int (lo + (k : Int))
def fiRng (fa : Env → Sto → Res (List D)) : FI := fun ρ μ => (fa ρ μ).bind fun ds μ' => match ds with
  | [.int j] => if -(2 ^ 62) ≤ j ∧ j < 2 ^ 62 then .ok (rngD 0 j.toNat, none) μ' else .bad
  | _ => .bad
def fiRng2 (fa : Env → Sto → Res (List D)) : FI := fun ρ μ => (fa ρ μ).bind fun ds μ' => match ds with
  | [.int i, .int j] => if -(2 ^ 62) ≤ i ∧ i < 2 ^ 62 ∧ -(2 ^ 62) ≤ j ∧ j < 2 ^ 62 then .ok (rngD i (j - i).toNat, none) μ' else .bad
  | _ => .bad
theorem id_rng {a : Expr} {fa : Env → Sto → Res (List D)} {p pos : Pos} (hg : Gl X "range") (hm : X.mg "range" = none) (ha : PA X [a] (tDA (gx X ea) W fa)) (hs : starEach [a] X.env = [(false, eval a X.env)] := by rfl) : PI X tg (.Call (.Name "range" p) [a] [] pos) (tI (gx X ea) W (fiRng fa)) := piI (pi_range1 hg hm ha hs) fun σ H R ⟨M0, L, μ, ρ, gd, q⟩ =>
  ⟨M0, L, μ, ρ, gd, q.bind gd fun ds L1 μ1 H1 g1 c1 q1 vs rv => by
    split at q1
    · rename_i j
      by_cases z : -(2 ^ 62) ≤ j ∧ j < 2 ^ 62
      · rw [if_pos z] at q1
        obtain ⟨v, rfl, r⟩ := rv.one
        exact ⟨j, by rw [show v = V.int j from r], z.1, z.2, After.now q1 g1 _ (itr_rng rfl)⟩
      · rw [if_neg z] at q1
        exact q1.elim
    · exact q1.elim⟩
theorem id_rng2 {a b : Expr} {fa : Env → Sto → Res (List D)} {p pos : Pos} (hg : Gl X "range") (hm : X.mg "range" = none) (ha : PA X [a, b] (tDA (gx X ea) W fa)) (hs : starEach [a, b] X.env = [(false, eval a X.env), (false, eval b X.env)] := by rfl) (hs2 : starEach [b] X.env = [(false, eval b X.env)] := by rfl) : PI X tg (.Call (.Name "range" p) [a, b] [] pos) (tI (gx X ea) W (fiRng2 fa)) := piI (pi_range2 hg hm ha hs hs2) fun σ H R ⟨M0, L, μ, ρ, gd, q⟩ =>
  ⟨M0, L, μ, ρ, gd, q.bind gd fun ds L1 μ1 H1 g1 c1 q1 vs rv => by
    split at q1
    · rename_i i j
      by_cases z : -(2 ^ 62) ≤ i ∧ i < 2 ^ 62 ∧ -(2 ^ 62) ≤ j ∧ j < 2 ^ 62
      · rw [if_pos z] at q1
        obtain ⟨v, u, rfl, r, r'⟩ := rv.two
        exact ⟨i, j, by rw [show v = V.int i from r, show u = V.int j from r'], ⟨z.1, z.2.1, z.2.2.1, z.2.2.2⟩, After.now q1 g1 _ (itr_rng rfl)⟩
      · rw [if_neg z] at q1
        exact q1.elim
    · exact q1.elim⟩
def fiStr (f : FD) : FI := fun ρ μ => (f ρ μ).bind fun d μ' => match d with
  | .str x => .ok (x.cps.toList.map fun c => D.str ⟨#[c]⟩, none) μ'
  | _ => .bad
theorem id_str (hl : PE X iter (tD (gx X ea) W f)) : PI X tg iter (tI (gx X ea) W (fiStr f)) := piI (pi_str hl) fun σ H R ⟨M0, L, μ, ρ, gd, q⟩ =>
  ⟨M0, L, μ, ρ, gd, q.bind gd fun d L1 μ1 H1 g1 c1 q1 v rv => by
    cases d with
    | str x => exact ⟨x, rv, After.now q1 g1 _ (its_str rfl)⟩
    | _ => exact q1.elim⟩
end
end DL
end

section
set_option Elab.async false
set_option linter.all false
set_option autoImplicit false
set_option maxRecDepth 100000
set_option maxHeartbeats 1000000
namespace DL
open PySem PySem.Spec PyProof.Rows L2
abbrev W0 : WX := fun _ _ _ _ => False
def wipeE (ρ : Env) : List Nat → Env
  | [] => ρ
  | v :: vs => (wipeE ρ vs).set v none
def tTrue : Env → Sto → Res Bool := fun _ μ => .ok true μ
open Classical in
noncomputable def lcL (tg : Tg) (vs : List Nat) (tt : Env → Sto → Res Bool) (te : FD) (kp : Kp) (ρ : Env) : List D → Sto → List D → Res D
  | [], μ, acc => .ok (.lst acc) μ
  | d :: ds, μ, acc => match tg d (wipeE ρ vs) μ with
    | none => .bad
    | some ρ1 => match tt ρ1 μ with
      | .ok b μ1 => if b = true then (match te ρ1 μ1 with
          | .ok y μ2 => if kpOk kp μ2 ∧ acc.length < 16777216 then lcL tg vs tt te kp ρ ds μ2 (acc ++ [y]) else .bad
          | _ => .bad) else (if kpOk kp μ1 then lcL tg vs tt te kp ρ ds μ1 acc else .bad)
      | _ => .bad
noncomputable def eLc (fi : FI) (tg : Tg) (vs : List Nat) (tt : Env → Sto → Res Bool) (te : FD) : FD := fun ρ μ => (fi ρ μ).bind fun p μ1 => lcL tg vs tt te p.2 ρ p.1 μ1 []
def AfF (K : Gx) (W : WX) (M0 : Addr → Prop) (ρ : Env) (σ : L2.St) (L : List Addr) (μ : Sto) (H : Hp) (r : Res D) (Q : VK) : Prop :=
  match r with
  | .ok d μ' => ∀ a L' H', Good K (fun b => M0 b ∨ b = a) L' μ' H' ρ σ → Ch L μ H L' μ' H' → H a = none → Cont K L' (Mv (fun b => M0 b ∨ b = a) L' μ') H' d a → Q (.ref a) H'
  | .ex x μ' => ∀ cls od L' H', Good K M0 L' μ' H' ρ σ → Ch L μ H L' μ' H' → RepX K L' (Mv M0 L' μ') H' x cls od → W cls od σ H'
  | .bad => False
section
variable {K : Gx} {W : WX} {M0 : Addr → Prop} {L L' : List Addr} {H H' : Hp} {μ μ' : Sto} {ρ ρ' : Env} {σ σ' : L2.St}
theorem Good.back (g : Good K M0 L μ H ρ σ) (g1 : Good K M0 L' μ' H' ρ' σ') (c : Ch L μ H L' μ' H') {a : Addr} (h : H' a = none) : H a = none := by
  cases h0 : H a with
  | none => rfl
  | some o =>
    by_cases lv : Live L μ a
    · obtain ⟨n, d, z1, z2⟩ := lv
      obtain ⟨t, rfl, _⟩ := c.pre
      exact absurd h (g1.sr.tr a (List.mem_append_left _ (List.mem_of_getElem? z1))).1
    · rw [c.frame a o lv h0] at h
      cases h
theorem AfF.rebase {r : Res D} {Q : VK} (g : Good K M0 L μ H ρ σ) (g1 : Good K M0 L' μ' H' ρ σ) (c : Ch L μ H L' μ' H') (h : AfF K W M0 ρ σ L μ H r Q) : AfF K W M0 ρ σ L' μ' H' r Q := by
  cases r with
  | ok d μ2 => exact fun a L2 H2 g2 c2 ha ct => h a L2 H2 g2 (g.trans g1 c c2) (g.back g1 c ha) ct
  | ex x μ2 => exact fun cls od L2 H2 g2 c2 rx => h cls od L2 H2 g2 (g.trans g1 c c2) rx
  | bad => exact h
theorem wipe_in {α : Type} : ∀ (vs : List Nat) (σ : List (Option α)) (wp : List (Option α) → List Nat → List (Option α)), True := fun _ _ _ => trivial
theorem wipeS_in {σ : L2.St} {j : Nat} : ∀ {vs : List Nat}, j ∈ vs → j < σ.length → (wipe σ vs)[j]? = some none
  | v :: vs, h, hl => by
    unfold wipe
    by_cases e : v = j
    · subst e
      rw [List.getElem?_set_self (by rw [wipe_length]; exact hl)]
    · rw [List.getElem?_set_ne e]
      rcases List.mem_cons.mp h with z | z
      · exact absurd z.symm e
      · exact wipeS_in z hl
theorem wipeE_out {ρ : Env} {j : Nat} : ∀ {vs : List Nat}, j ∉ vs → (wipeE ρ vs)[j]? = ρ[j]?
  | [], _ => rfl
  | v :: vs, h => by
    unfold wipeE
    rw [List.mem_cons, not_or] at h
    rw [List.getElem?_set_ne (Ne.symm h.1), wipeE_out h.2]
theorem wipeE_len {ρ : Env} : ∀ {vs : List Nat}, (wipeE ρ vs).length = ρ.length
  | [] => rfl
  | v :: vs => by unfold wipeE; rw [List.length_set, wipeE_len]
theorem wipeE_some {ρ : Env} {i : Nat} {x : D} : ∀ {vs : List Nat}, (wipeE ρ vs)[i]? = some (some x) → ρ[i]? = some (some x) ∧ i ∉ vs
  | [], h => ⟨h, by simp⟩
  | v :: vs, h => by
    unfold wipeE at h
    by_cases hi : v = i
    · subst hi
      by_cases hv : v < (wipeE ρ vs).length
      · rw [List.getElem?_set_self hv] at h; cases h
      · rw [List.getElem?_eq_none (by simpa using hv)] at h; cases h
    · rw [List.getElem?_set_ne hi] at h
      obtain ⟨h1, h2⟩ := wipeE_some h
      exact ⟨h1, by simp only [List.mem_cons, not_or]; exact ⟨fun e => hi e.symm, h2⟩⟩
theorem wipe_eq {vs : List Nat} (hl : σ'.length = (wipe σ vs).length) (h : ∀ j, j ∉ vs → σ'[j]? = (wipe σ vs)[j]?) : wipe σ' vs = wipe σ vs := by
  apply List.ext_getElem?
  intro j
  by_cases hj : j ∈ vs
  · by_cases hn : j < σ.length
    · rw [wipeS_in hj (by rw [hl, wipe_length]; exact hn), wipeS_in hj hn]
    · rw [List.getElem?_eq_none (by rw [wipe_length, hl, wipe_length]; omega), List.getElem?_eq_none (by rw [wipe_length]; omega)]
  · rw [wipe_out hj, h j hj]
theorem Good.wipe {vs : List Nat} (g : Good K M0 L μ H ρ σ) : Good K M0 L μ H (wipeE ρ vs) (L2.wipe σ vs) := by
  refine ⟨g.sr, by rw [wipeE_len, wipe_length]; exact g.ev.len, fun i d e => ?_⟩
  obtain ⟨h1, h2⟩ := wipeE_some e
  obtain ⟨v, e1, r⟩ := g.ev.at_ i d h1
  exact ⟨v, by rw [wipe_out h2]; exact e1, r⟩
theorem relock {a : Addr} {o o' : HO} (hD : H a = some o) (nt : ∀ vs, o ≠ .tup vs) (nf : ∀ q u, o ≠ .frz q u) {d : D} {v : V} (r : Rep K L (Mv (fun b => M0 b ∨ b = a) L μ) H d v) : Rep K L (Mv (fun b => M0 b ∨ b = a) L μ) (upd H a o') d v :=
  Rep.mono0 ⟨[], by simp⟩ (fun _ _ m => m) (fun b u nm e => by
    rw [upd_ne (fun z => nm (.inr (.inr z)))]
    exact e) (fun b vs e => by
    rw [upd_ne (fun z => by rw [z, hD] at e; exact nt vs (Option.some.inj e))]
    exact e) (fun b q u e => by
    rw [upd_ne (fun z => by rw [z, hD] at e; exact nf q u (Option.some.inj e))]
    exact e) d v r
theorem relocks {a : Addr} {o o' : HO} (hD : H a = some o) (nt : ∀ vs, o ≠ .tup vs) (nf : ∀ q u, o ≠ .frz q u) {d : List D} {v : List V} (r : Reps K L (Mv (fun b => M0 b ∨ b = a) L μ) H d v) : Reps K L (Mv (fun b => M0 b ∨ b = a) L μ) (upd H a o') d v :=
  Reps.mono0 ⟨[], by simp⟩ (fun _ _ m => m) (fun b u nm e => by
    rw [upd_ne (fun z => nm (.inr (.inr z)))]
    exact e) (fun b vs e => by
    rw [upd_ne (fun z => by rw [z, hD] at e; exact nt vs (Option.some.inj e))]
    exact e) (fun b q u e => by
    rw [upd_ne (fun z => by rw [z, hD] at e; exact nf q u (Option.some.inj e))]
    exact e) d v r
theorem Good.relock {a : Addr} {o o' : HO} (g : Good K (fun b => M0 b ∨ b = a) L μ H ρ σ) (hD : H a = some o) (nt : ∀ vs, o ≠ .tup vs) (nf : ∀ q u, o ≠ .frz q u) : Good K (fun b => M0 b ∨ b = a) L μ (upd H a o') ρ σ := by
  have nn : ∀ b, H b ≠ none → upd H a o' b ≠ none := fun b h => by
    by_cases e : b = a
    · subst e; rw [upd_same]; exact fun z => nomatch z
    · rw [upd_ne e]; exact h
  have nl := not_live_of_lock g.sr
  refine ⟨⟨g.sr.len, g.sr.nd, fun b hb => ⟨nn b (g.sr.tr b hb).1, (g.sr.tr b hb).2⟩, fun b hb => nn b (g.sr.trM b hb), fun n d e => ?_⟩, g.ev.len, fun i d e => ?_⟩
  · obtain ⟨b, e1, c⟩ := g.sr.cont n d e
    have nb : b ≠ a := fun z => nl.2 (z ▸ List.mem_of_getElem? e1)
    exact ⟨b, e1, c.mono0 ⟨[], by simp⟩ (fun _ _ m => m) (fun b u nm e => by
      rw [upd_ne (fun z => nm (.inr (.inr z)))]
      exact e) (fun b vs e => by
      rw [upd_ne (fun z => by rw [z, hD] at e; exact nt vs (Option.some.inj e))]
      exact e) (fun b q u e => by
      rw [upd_ne (fun z => by rw [z, hD] at e; exact nf q u (Option.some.inj e))]
      exact e) fun u e => by rw [upd_ne nb]; exact e⟩
  · obtain ⟨v, e1, r⟩ := g.ev.at_ i d e
    exact ⟨v, e1, DL.relock hD nt nf r⟩
theorem TgOk.sub {K : Gx} {tg : Tg} {vs ws : List Nat} {g : TG} (h : TgOk K tg vs g) (s : ∀ j ∈ vs, j ∈ ws) : TgOk K tg ws g := fun M0 L μ H ρ σ d v Q gd r q => h M0 L μ H ρ σ d v Q gd r (by
  cases z : tg d ρ μ with
  | none => rw [z] at q; exact q
  | some ρ' =>
    rw [z] at q
    exact fun σ' g' l' s' => q σ' g' l' fun j hj => s' j fun z => hj (s j z))
end
section
variable {X : Cx} {ea : Option (Addr × Option Addr)} {W : WX} {tg iter elt : Expr} {f : FD} {pos : Pos}
theorem ptsI {ifs : List Expr} {t t' : TT} (h : PTs X ifs t) (i : ∀ σ H Q, t' σ H Q → t σ H Q) : PTs X ifs t' := ⟨fun pins s σ H Q I q => h.run pins s σ H Q I (i _ _ _ q)⟩
theorem tds_nil : PTs X [] (tDT (gx X ea) W tTrue) := ptsI pts_nil fun σ H Q ⟨M0, L, μ, ρ, g, q⟩ => q.now (a := true) g
theorem tds_one {c : Expr} {t : Env → Sto → Res Bool} (h : PT X c (tDT (gx X ea) W t)) : PTs X [c] (tDT (gx X ea) W t) := pts_one h
open Classical in
theorem lc_imp {fi : FI} {gg : TG} {tgf : Tg} {ws vs : List Nat} {tt : Env → Sto → Res Bool} {te : FD} (htg : TgOk (gx X ea) tgf ws gg) (hws : ∀ j ∈ ws, j ∈ vs) : ∀ σ H Q, tF (gx X ea) W (eLc fi tgf vs tt te) σ H Q → tLc (tI (gx X ea) W fi) gg (tDT (gx X ea) W0 tt) (tD (gx X ea) W0 te) vs σ H Q := fun σ H Q ⟨M0, L, μ, ρ, gd, q⟩ => by
  refine ⟨M0, L, μ, ρ, gd, ?_⟩
  have q0 : AfF (gx X ea) W M0 ρ σ L μ H (eLc fi tgf vs tt te ρ μ) Q := q
  clear q
  unfold eLc at q0
  cases r : fi ρ μ with
  | ex x μ1 => rw [r] at q0; exact q0
  | bad => rw [r] at q0; exact q0
  | ok p μ1 =>
    rw [r] at q0
    intro L1 H1 g1 c1 J hJ D hD
    have q1 : AfF (gx X ea) W M0 ρ σ L1 μ1 H1 (lcL tgf vs tt te p.2 ρ p.1 μ1 []) Q := AfF.rebase gd g1 c1 q0
    have m0 : ∀ a, H1 a ≠ none → (M0 a ∨ a = D) → M0 a := fun a h z => z.elim id fun e => by
      subst e
      exact absurd hD h
    refine ⟨fun i m H => m = p.1.length - i ∧ ∃ L μ acc av, Good (gx X ea) (fun b => M0 b ∨ b = D) L μ H ρ σ ∧ Ch L1 μ1 H1 L μ H ∧ kpOk p.2 μ ∧ i ≤ p.1.length ∧ H D = some (.lst av) ∧ Reps (gx X ea) L (Mv (fun b => M0 b ∨ b = D) L μ) H acc av ∧ AfF (gx X ea) W M0 ρ σ L1 μ1 H1 (lcL tgf vs tt te p.2 ρ (p.1.drop i) μ acc) Q,
      ⟨_, rfl, L1, μ1, [], [], g1.lock hD, (g1.sr.new hD).2, hJ.ini, Nat.zero_le _, upd_same, rfl, q1⟩, ?_⟩
    rintro i m H2 ⟨rfl, L2, μ2, acc, av, g2, c2, k2, hi2, hD2, ra, q2⟩
    by_cases hlt : i < p.1.length
    · have e : p.1[i]? = some p.1[i] := List.getElem?_eq_getElem hlt
      have go := hJ.go (fun b => M0 b ∨ b = D) L2 μ2 H2 (fun _ z => .inl z) g2.sr c2 m0 k2 i _ e
      refine .inr ⟨go.1, fun H' => ∃ L μ acc av, Good (gx X ea) (fun b => M0 b ∨ b = D) L μ H' ρ σ ∧ Ch L1 μ1 H1 L μ H' ∧ kpOk p.2 μ ∧ H' D = some (.lst av) ∧ Reps (gx X ea) L (Mv (fun b => M0 b ∨ b = D) L μ) H' acc av ∧ AfF (gx X ea) W M0 ρ σ L1 μ1 H1 (lcL tgf vs tt te p.2 ρ (p.1.drop (i + 1)) μ acc) Q,
        fun H' ⟨L, μ, acc, av, a1, a2, a3, a4, a5, a6⟩ => ⟨p.1.length - (i + 1), by omega, rfl, L, μ, acc, av, a1, a2, a3, hlt, a4, a5, a6⟩, fun x H3 y => ?_⟩
      obtain ⟨⟨s3, c3, k3⟩, rx⟩ := go.2 x H3 y
      have g3 := g2.step s3 c3
      have hD3 : H3 D = some (.lst av) := by rw [k3 D (by rw [hD2]; exact fun z => nomatch z)]; exact hD2
      have g1' : SR (gx X ea) (fun b => M0 b ∨ b = D) L1 μ1 (upd H1 D (.lst [])) := (g1.lock hD).sr
      have ch3 : Ch L1 μ1 H1 L2 μ2 H3 := g1.sr.trans (by exact g2.sr.unlock) c2 c3
      rw [List.drop_eq_getElem_cons hlt, lcL] at q2
      refine htg _ L2 μ2 H3 (wipeE ρ vs) (wipe σ vs) _ x _ g3.wipe rx ?_
      cases z : tgf p.1[i] (wipeE ρ vs) μ2 with
      | none => rw [z] at q2; exact q2
      | some ρ1 =>
        rw [z] at q2
        simp only at q2
        intro σ1 g4 l4 s4
        refine ⟨wipe_eq l4 fun j hj => s4 j fun hz => hj (hws j hz), _, L2, μ2, ρ1, g4, ?_⟩
        cases y : tt ρ1 μ2 with
        | ex _ _ => rw [y] at q2; exact q2.elim
        | bad => rw [y] at q2; exact q2
        | ok b μ3 =>
          rw [y] at q2
          simp only at q2
          intro L4 H4 g5 c5
          have nl := not_live_of_lock g4.sr
          have g5' : Good (gx X ea) (fun b => M0 b ∨ b = D) L4 μ3 H4 ρ σ := g3.step g5.sr c5
          have ch5 : Ch L1 μ1 H1 L4 μ3 H4 := g1.sr.trans g3.sr.unlock ch3 c5
          have hD5 : H4 D = some (.lst av) := c5.frame D _ nl.1 hD3
          have ra5 := g3.monos c5 (g2.monos c3 ra)
          cases b with
          | false =>
            simp only [Bool.false_eq_true, if_false] at q2 ⊢
            by_cases k : kpOk p.2 μ3
            · rw [if_pos k] at q2
              exact ⟨L4, μ3, acc, av, g5', ch5, k, hD5, ra5, q2⟩
            · rw [if_neg k] at q2
              exact q2.elim
          | true =>
            simp only [if_true] at q2 ⊢
            refine ⟨_, L4, μ3, ρ1, g5, ?_⟩
            cases t : te ρ1 μ3 with
            | ex _ _ => rw [t] at q2; exact q2.elim
            | bad => rw [t] at q2; exact q2
            | ok yd μ4 =>
              rw [t] at q2
              simp only at q2
              by_cases k : kpOk p.2 μ4 ∧ acc.length < 16777216
              · rw [if_pos k] at q2
                intro L5 H5 g6 c6 yv ry
                have nl5 := not_live_of_lock g5.sr
                have hD6 : H5 D = some (.lst av) := c6.frame D _ nl5.1 hD5
                have ra6 := g5.monos c6 ra5
                have g6' : Good (gx X ea) (fun b => M0 b ∨ b = D) L5 μ4 H5 ρ σ := g5'.step g6.sr c6
                have ch6 : Ch L1 μ1 H1 L5 μ4 H5 := g1.sr.trans g5'.sr.unlock ch5 c6
                refine ⟨av, hD6, by rw [← ra6.length, sizeLine_eq]; exact k.2, L5, μ4, acc ++ [yd], av ++ [yv], g6'.relock hD6 (fun _ z => nomatch z) (fun _ _ z => nomatch z), ?_, k.1, upd_same, relocks hD6 (fun _ z => nomatch z) (fun _ _ z => nomatch z) (ra6.app (Reps.cons ry Reps.nil)), q2⟩
                refine ⟨ch6.pre, fun b o nlb eb => ?_, fun b vs eb => ?_, fun b o u eb => ?_, ch6.dead⟩
                · rw [upd_ne (fun z => by rw [z, hD] at eb; cases eb)]
                  exact ch6.frame b o nlb eb
                · rw [upd_ne (fun z => by rw [z, hD] at eb; cases eb)]
                  exact ch6.tups b vs eb
                · rw [upd_ne (fun z => by rw [z, hD] at eb; cases eb)]
                  exact ch6.frzs b o u eb
              · rw [if_neg k] at q2
                exact q2.elim
    · have e : i = p.1.length := by omega
      subst e
      rw [List.drop_length, lcL] at q2
      exact .inl ⟨hJ.stop _ L2 μ2 H2 (fun _ z => .inl z) g2.sr c2 m0 k2 _ (Nat.le_refl _), q2 D L2 H2 g2 c2 hD ⟨av, hD2, ra⟩⟩
open Classical in
theorem pd_lc {ifs : List Expr} {scope : Scope} {own : List (Str × Nat)} {fi : FI} {gg : TG} {tgf : Tg} {ws : List Nat} {tt : Env → Sto → Res Bool} {te : FD} (hc : X.calm = true) (hN : X.N.Nodup) (hi : PI X tg iter (tI (gx X ea) W fi)) (ok : BlkOk X.N X.env.scope scope own)
    (hg : ∀ (s : Shared) (H : Hp) (C : Addr) (cl : List (Str × Addr)) (fp : List Addr), PG (X.blk s H scope (compEnvC scope cl C X.env) fp) tg gg) (htg : TgOk (gx X ea) tgf ws gg) (hws : ∀ j ∈ ws, j ∈ own.map (·.2)) (ht : ∀ (s : Shared) (H : Hp) (C : Addr) (cl : List (Str × Addr)) (fp : List Addr), PTs (X.blk s H scope (compEnvC scope cl C X.env) fp) ifs (tDT (gx X ea) W0 tt))
    (he : ∀ (s : Shared) (H : Hp) (C : Addr) (cl : List (Str × Addr)) (fp : List Addr), PE (X.blk s H scope (compEnvC scope cl C X.env) fp) elt (tD (gx X ea) W0 te)) (hs : ∀ x, foldedSetIterable iter X.env x = pure x := by intro _; rfl) :
    PE X (.ListComp elt [⟨tg, iter, ifs, 0⟩] scope pos) (tF (gx X ea) W (eLc fi tgf (own.map (·.2)) tt te)) := peI (pe_lc hc hN hi ok hg ht he hs) (lc_imp htg hws)
theorem set_imp {te : TE} {i : Nat} {f : FD} (h : ∀ σ H Q, tD (gx X ea) W f σ H Q → te σ H Q) : ∀ E σ H, tS (gx X ea) W (sSet i f) E σ H → tAsg te (gName i) E σ H := fun E σ H ⟨M0, L, μ, ρ, gd, q⟩ =>
  h _ _ _ ⟨M0, L, μ, ρ, gd, Res.after gd q fun d L1 μ1 H1 g1 c1 q1 v rv => AfterS.nx' g1 q1 (g1.set rv)⟩
/-- name = [..] on one line -/
theorem sd_setLc {i : Nat} {y : Str} {py : Pos} {ifs : List Expr} {scope : Scope} {own : List (Str × Nat)} {spos : Pos} {fi : FI} {gg : TG} {tgf : Tg} {ws : List Nat} {tt : Env → Sto → Res Bool} {te : FD} (hc : X.calm = true) (hN : X.N.Nodup) (hy : X.N[i]? = some y) (hyl : X.env.scope.names.lookup y = some .local)
    (hsw : swapsWith (.ListComp elt [⟨tg, iter, ifs, 0⟩] scope pos) (some (.Name y py)) spos.line X.env = pure true) (hi : PI X tg iter (tI (gx X ea) W fi)) (ok : BlkOk X.N X.env.scope scope own)
    (hg : ∀ (s : Shared) (H : Hp) (C : Addr) (cl : List (Str × Addr)) (fp : List Addr), PG (X.blk s H scope (compEnvC scope cl C X.env) fp) tg gg) (htg : TgOk (gx X ea) tgf ws gg) (hws : ∀ j ∈ ws, j ∈ own.map (·.2)) (ht : ∀ (s : Shared) (H : Hp) (C : Addr) (cl : List (Str × Addr)) (fp : List Addr), PTs (X.blk s H scope (compEnvC scope cl C X.env) fp) ifs (tDT (gx X ea) W0 tt))
    (he : ∀ (s : Shared) (H : Hp) (C : Addr) (cl : List (Str × Addr)) (fp : List Addr), PE (X.blk s H scope (compEnvC scope cl C X.env) fp) elt (tD (gx X ea) W0 te)) (hs : ∀ x, foldedSetIterable iter X.env x = pure x := by intro _; rfl) :
    PS X (.Assign [.Name y py] (.ListComp elt [⟨tg, iter, ifs, 0⟩] scope pos) spos) (tS (gx X ea) W (sSet i (eLc fi tgf (own.map (·.2)) tt te))) := psI (ps_setLc hc hN hy hyl hsw hi ok hg ht he hs) (set_imp fun σ H Q q => lc_imp htg hws σ H Q (val_imp σ H Q q))
theorem sd_setLcO {i : Nat} {y : Str} {py : Pos} {ifs : List Expr} {scope : Scope} {own : List (Str × Nat)} {spos : Pos} {fi : FI} {gg : TG} {tgf : Tg} {ws : List Nat} {tt : Env → Sto → Res Bool} {te : FD} (hc : X.calm = true) (hN : X.N.Nodup) (hy : X.N[i]? = some y) (hyl : X.env.scope.names.lookup y = some .local)
    (hsw : swapsWith (.ListComp elt [⟨tg, iter, ifs, 0⟩] scope pos) (some (.Name y py)) spos.line X.env = pure true) (hi : PI X tg iter (tI (gx X ea) W fi)) (ok : BlkOk X.N X.env.scope scope own)
    (hg : ∀ (s : Shared) (H : Hp) (C : Addr) (cl : List (Str × Addr)) (fp : List Addr), PG (X.blk s H scope (compEnvC scope cl C X.env) fp) tg gg) (htg : TgOk (gx X ea) tgf ws gg) (hws : ∀ j ∈ ws, j ∈ own.map (·.2)) (ht : ∀ (s : Shared) (H : Hp) (C : Addr) (cl : List (Str × Addr)) (fp : List Addr), PTs (X.blk s H scope (compEnvC scope cl C X.env) fp) ifs (tDT (gx X ea) W0 tt))
    (he : ∀ (s : Shared) (H : Hp) (C : Addr) (cl : List (Str × Addr)) (fp : List Addr), PE (X.blk s H scope (compEnvC scope cl C X.env) fp) elt (tD (gx X ea) W0 te)) (hs : ∀ x, foldedSetIterable iter X.env x = pure x := by intro _; rfl) :
    PS X (.Assign [.Name y py] (.ListComp elt [⟨tg, iter, ifs, 0⟩] scope pos) spos) (tS (gx X ea) W (sSet i (eOwn (eLc fi tgf (own.map (·.2)) tt te)))) := psI (ps_setLc hc hN hy hyl hsw hi ok hg ht he hs) (set_imp fun σ H Q q => lc_imp htg hws σ H Q (own_imp σ H Q q))
end
end DL
end

section
set_option Elab.async false
set_option linter.all false
set_option autoImplicit false
set_option maxRecDepth 100000
set_option maxHeartbeats 1000000
namespace DL
open PySem PySem.Spec PyProof.Rows L2
/-! assignments of several kinds -/
abbrev Ta := D → Env → Sto → Option (Env × Sto)
def TaOk (X : Cx) (ea : Option (Addr × Option Addr)) (W : WX) (ta : Ta) (g : TG) : Prop := ∀ M0 L μ H ρ σ d v Q, Good (gx X ea) M0 L μ H ρ σ → Rep (gx X ea) L (Mv M0 L μ) H d v →
  (match ta d ρ μ with
    | some (ρ', μ') => ∀ σ' L' H', Good (gx X ea) M0 L' μ' H' ρ' σ' → Ch L μ H L' μ' H' → Q σ' H'
    | none => False) → g v σ H Q
def TasOk (X : Cx) (ea : Option (Addr × Option Addr)) (W : WX) (ta : List D → Env → Sto → Option (Env × Sto)) (g : TGs) : Prop := ∀ M0 L μ H ρ σ ds vs Q, Good (gx X ea) M0 L μ H ρ σ → Reps (gx X ea) L (Mv M0 L μ) H ds vs →
  (match ta ds ρ μ with
    | some (ρ', μ') => ∀ σ' L' H', Good (gx X ea) M0 L' μ' H' ρ' σ' → Ch L μ H L' μ' H' → Q σ' H'
    | none => False) → g vs σ H Q
def aN' (i : Nat) : Ta := fun d ρ μ => some (ρ.set i (some d), μ)
def asN : List D → Env → Sto → Option (Env × Sto)
  | [], ρ, μ => some (ρ, μ)
  | _, _, _ => none
def asC (t : Ta) (u : List D → Env → Sto → Option (Env × Sto)) : List D → Env → Sto → Option (Env × Sto)
  | d :: ds, ρ, μ => match t d ρ μ with
    | some (ρ', μ') => u ds ρ' μ'
    | none => none
  | [], _, _ => none
def aT (n : Nat) (u : List D → Env → Sto → Option (Env × Sto)) : Ta := fun d ρ μ => match cOf μ d with
  | .tup l => if l.length = n then u l ρ μ else none
  | _ => none
def sAsg (f : FD) (ta : Ta) : FS := fun ρ μ => (f ρ μ).out ρ fun d μ1 => match ta d ρ μ1 with
  | some (ρ', μ') => .nx ρ' μ'
  | none => .bad
def SetG (K : Gx) (r : TSet) (op : D → D → D → Sto → Option Sto) : Prop := ∀ M0 L μ H ρ σ o i d ov iv v Q, Good K M0 L μ H ρ σ → Rep K L (Mv M0 L μ) H o ov → Rep K L (Mv M0 L μ) H i iv → Rep K L (Mv M0 L μ) H d v →
  (match op o i d μ with
    | some μ' => ∀ H', SR K M0 L μ' H' → Ch L μ H L μ' H' → Q H'
    | none => False) → r ov iv v H Q
def aSub (fo fi : FD) (op : D → D → D → Sto → Option Sto) : Ta := fun d ρ μ => match fo ρ μ with
  | .ok o μ1 => (match fi ρ μ1 with
    | .ok i μ2 => (op o i d μ2).map fun μ3 => (ρ, μ3)
    | _ => none)
  | _ => none
section
variable {X : Cx} {ea : Option (Addr × Option Addr)} {W : WX}
theorem ta_name {i : Nat} : TaOk X ea W (aN' i) (gName i) := fun M0 L μ H ρ σ d v Q g r q => q _ L H (g.set r) (Ch.refl _ _ _)
theorem tas_nil : TasOk X ea W asN gNil := fun M0 L μ H ρ σ ds vs Q g r q => by
  cases ds with
  | nil => cases r; exact ⟨rfl, q σ L H g (Ch.refl _ _ _)⟩
  | cons _ _ => exact q.elim
theorem tas_cons {t : Ta} {u : List D → Env → Sto → Option (Env × Sto)} {g : TG} {gs : TGs} (h1 : TaOk X ea W t g) (h2 : TasOk X ea W u gs) : TasOk X ea W (asC t u) (gCons g gs) := fun M0 L μ H ρ σ ds vs Q gd r q => by
  cases ds with
  | nil => exact q.elim
  | cons d ds =>
    obtain ⟨v, r', rfl, r1, r2⟩ := r
    refine ⟨v, r', rfl, h1 M0 L μ H ρ σ d v _ gd r1 ?_⟩
    cases z : t d ρ μ with
    | none => simp only [asC, z] at q
    | some p =>
      obtain ⟨ρ1, μ1⟩ := p
      simp only [asC, z] at q
      intro σ1 L1 H1 g1 c1
      refine h2 M0 L1 μ1 H1 ρ1 σ1 ds r' Q g1 (gd.monos c1 r2) ?_
      cases y : u ds ρ1 μ1 with
      | none => rw [y] at q; exact q
      | some p2 =>
        obtain ⟨ρ2, μ2⟩ := p2
        rw [y] at q
        exact fun σ2 L2 H2 g2 c2 => q σ2 L2 H2 g2 (gd.trans g1 c1 c2)
theorem ta_tup {n : Nat} {u : List D → Env → Sto → Option (Env × Sto)} {gs : TGs} (h : TasOk X ea W u gs) : TaOk X ea W (aT n u) (gTup X.K n gs) := fun M0 L μ H ρ σ d v Q gd r q => by
  unfold aT at q
  cases z : cOf μ d with
  | tup l =>
    rw [z] at q
    simp only at q
    by_cases hl : l.length = n
    · rw [if_pos hl] at q
      obtain ⟨a, us, rfl, sq, rs⟩ := tup_of gd.sr r z
      exact ⟨a, us, rfl, sq, by rw [← rs.length]; exact hl, h M0 L μ H ρ σ l us Q gd rs q⟩
    · rw [if_neg hl] at q
      exact q.elim
  | _ => rw [z] at q; exact q.elim
theorem ta_sub {fo fi : FD} {op : D → D → D → Sto → Option Sto} {ts : TSet} (hs : SetG (gx X ea) ts op) : TaOk X ea W (aSub fo fi op) (gSub (tD (gx X ea) W fo) (tD (gx X ea) W fi) ts) := fun M0 L μ H ρ σ d v Q gd r q => by
  unfold aSub at q
  refine ⟨M0, L, μ, ρ, gd, ?_⟩
  cases z : fo ρ μ with
  | ok o μ1 =>
    rw [z] at q
    intro L1 H1 g1 c1 ov ro
    refine ⟨M0, L1, μ1, ρ, g1, ?_⟩
    simp only at q
    cases y : fi ρ μ1 with
    | ok i μ2 =>
      rw [y] at q
      intro L2 H2 g2 c2 iv ri
      simp only at q
      refine hs M0 L2 μ2 H2 ρ σ o i d ov iv v _ g2 (g1.mono c2 ro) ri (g1.mono c2 (gd.mono c1 r)) ?_
      cases t : op o i d μ2 with
      | none => rw [t] at q; exact q
      | some μ3 =>
        rw [t] at q
        exact fun H3 s3 c3 => q σ L2 H3 (g2.step s3 c3) (gd.trans g2 (gd.trans g1 c1 c2) c3)
    | ex _ _ => rw [y] at q; exact q.elim
    | bad => rw [y] at q; exact q.elim
  | ex _ _ => rw [z] at q; exact q.elim
  | bad => rw [z] at q; exact q.elim
variable {e tg : Expr} {f : FD} {pos : Pos}
theorem sd_asg {ta : Ta} {g : TG} (he : PE X e (tD (gx X ea) W f)) (hg : PG X tg g) (ht : TaOk X ea W ta g) (hs : swapsWithSole [tg] e pos.line X.env = pure false := by rfl) (hw : swappedStores [tg] e X.env = pure none := by rfl) (h1 : (assignEach [tg] X.env).map (·.2) = [assign tg X.env] := by rfl) :
    PS X (.Assign [tg] e pos) (tS (gx X ea) W (sAsg f ta)) := psI (ps_asg he hg hs hw h1) fun E σ H ⟨M0, L, μ, ρ, gd, q⟩ =>
  ⟨M0, L, μ, ρ, gd, Res.after gd q fun d L1 μ1 H1 g1 c1 q1 v rv => by
    refine ht M0 L1 μ1 H1 ρ σ d v _ g1 rv ?_
    cases z : ta d ρ μ1 with
    | none => rw [z] at q1; exact q1
    | some p => rw [z] at q1; exact q1⟩
/-- a, b = x, y: two plain names -/
def sPar (i j : Nat) (fa : Env → Sto → Res (List D)) : FS := fun ρ μ => (fa ρ μ).out ρ fun ds μ1 => match ds with
  | [d, e] => .nx ((ρ.set i (some d)).set j (some e)) μ1
  | _ => .bad
theorem sd_par {i j : Nat} {x y : Str} {a b : Expr} {fa : Env → Sto → Res (List D)} {px py pt : Pos} {kt k2 pt2} (hc : X.calm = true) (hN : X.N.Nodup) (hi : X.N[i]? = some x) (hj : X.N[j]? = some y) (hij : i ≠ j)
    (hx : X.env.scope.names.lookup x = some .local) (hy : X.env.scope.names.lookup y = some .local) (ha : PA X [a, b] (tDA (gx X ea) W fa))
    (hw : swappedStores [.Tuple [.Name x px, .Name y py] kt pt] (.Tuple [a, b] k2 pt2) X.env = pure (some [x, y]))
    (hs : swapsWithSole [.Tuple [.Name x px, .Name y py] kt pt] (.Tuple [a, b] k2 pt2) pos.line X.env = pure false := by rfl) :
    PS X (.Assign [.Tuple [.Name x px, .Name y py] kt pt] (.Tuple [a, b] k2 pt2) pos) (tS (gx X ea) W (sPar i j fa)) := psI (ps_par hc hN hi hj hij hx hy ha hw hs) fun E σ H ⟨M0, L, μ, ρ, gd, q⟩ =>
  ⟨M0, L, μ, ρ, gd, Res.after gd q fun ds L1 μ1 H1 g1 c1 q1 vs rv => by
    split at q1
    · obtain ⟨v, w, rfl, r1, r2⟩ := rv.two
      exact ⟨v, w, rfl, AfterS.nx' g1 q1 ((g1.set r1).set r2)⟩
    · exact q1.elim⟩
/-- code that is not come to -/
def sNo : FS := fun _ _ => .bad
theorem sd_no {st : Stmt} : PS X st (tS (gx X ea) W sNo) := psI ps_never fun E σ H ⟨M0, L, μ, ρ, gd, q⟩ => q
theorem pd_no {e : Expr} : PE X e (tD (gx X ea) W fun _ _ => .bad) := ⟨fun pins s σ H Q I ⟨M0, L, μ, ρ, gd, q⟩ => q.elim⟩
/-! chains -/
variable {a b c : Expr} {g h : FD}
theorem pd_chain {op op' : CmpOp} {r r' : R2} {o1 o2 : D → D → Sto → Res D} (ho : OpR X (compareOp op) r) (h1 : OpG (gx X ea) r o1) (ho' : OpR X (compareOp op') r') (h2 : OpG (gx X ea) r' o2) (ha : PE X a (tD (gx X ea) W f)) (hb : PE X b (tD (gx X ea) W g)) (hc : PE X c (tD (gx X ea) W h))
    (hm : lastMarks [op, op'] [b, c] = false := by with_unfolding_all rfl) : PE X (.Compare a [op, op'] [b, c] pos) (tD (gx X ea) W (eChain o1 o2 f g h)) := peI (pe_chain ho ho' ha hb hc hm) fun σ H Q ⟨M0, L, μ, ρ, gd, q⟩ =>
  ⟨M0, L, μ, ρ, gd, q.bind gd fun d L1 μ1 H1 g1 c1 q1 v rv => ⟨M0, L1, μ1, ρ, g1, q1.bind g1 fun e L2 μ2 H2 g2 c2 q2 u ru => h1 _ _ _ _ _ _ _ _ _ _ _ _ g2 (g1.mono c2 rv) ru (q2.bind g2 fun z L3 μ3 H3 g3 c3 q3 zv rz => by
    split at q3
    · exact ⟨true, rz, iteT ⟨M0, L3, μ3, ρ, g3, q3.bind g3 fun k L4 μ4 H4 g4 c4 q4 kv rk => h2 _ _ _ _ _ _ _ _ _ _ _ _ g4 (g3.mono c4 (g2.mono c3 ru)) rk q4⟩⟩
    · exact ⟨false, rz, iteF (After.val q3 g3 rfl)⟩
    · exact q3.elim)⟩⟩
theorem td_chain {op op' : CmpOp} {r r' : R2} {o1 o2 : D → D → Sto → Res D} (ho : OpR X (compareOp op) r) (h1 : OpG (gx X ea) r o1) (ho' : OpR X (compareOp op') r') (h2 : OpG (gx X ea) r' o2) (ha : PE X a (tD (gx X ea) W f)) (hb : PE X b (tD (gx X ea) W g)) (hc : PE X c (tD (gx X ea) W h))
    (hm : lastMarks [op, op'] [b, c] = false := by with_unfolding_all rfl) : PT X (.Compare a [op, op'] [b, c] pos) (tDT (gx X ea) W (tB (eChain o1 o2 f g h))) := ptI (pt_chain ho ho' ha hb hc hm) fun σ H Q ⟨M0, L, μ, ρ, gd, q⟩ => by
  refine ⟨M0, L, μ, ρ, gd, ?_⟩
  have q' : After (gx X ea) W M0 ρ σ L μ H (((f ρ μ).bind fun d μ1 => (g ρ μ1).bind fun e μ2 => (o1 d e μ2).bind fun z μ3 => match z with
    | .bl true => (h ρ μ3).bind fun k μ4 => o2 e k μ4
    | .bl false => .ok (.bl false) μ3
    | _ => .bad).bind fun d μ' => match d with | .bl b => .ok b μ' | _ => .bad) (fun b _ _ H' => Q b H') := q
  have assoc : ∀ {α β γ : Type} (x : Res α) (k1 : α → Sto → Res β) (k2 : β → Sto → Res γ), (x.bind k1).bind k2 = x.bind fun a μ => (k1 a μ).bind k2 := fun x k1 k2 => by cases x <;> rfl
  rw [assoc] at q'
  refine q'.bind gd fun d L1 μ1 H1 g1 c1 q1 v rv => ⟨M0, L1, μ1, ρ, g1, ?_⟩
  rw [assoc] at q1
  refine q1.bind g1 fun e L2 μ2 H2 g2 c2 q2 u ru => h1 W _ _ _ _ _ _ _ _ _ _ _ g2 (g1.mono c2 rv) ru ?_
  rw [assoc] at q2
  refine q2.bind g2 fun z L3 μ3 H3 g3 c3 q3 zv rz => ?_
  split at q3
  · refine ⟨true, rz, iteT ⟨M0, L3, μ3, ρ, g3, ?_⟩⟩
    rw [assoc] at q3
    refine q3.bind g3 fun k L4 μ4 H4 g4 c4 q4 kv rk => h2 W _ _ _ _ _ _ _ _ _ _ _ g4 (g3.mono c4 (g2.mono c3 ru)) rk ?_
    refine q4.bind g4 fun d5 L5 μ5 H5 g5 c5 q5 w rw5 => ?_
    cases d5 with
    | bl k => exact ⟨k, rw5, After.now q5 g5⟩
    | _ => exact q5.elim
  · exact ⟨false, rz, iteF ⟨false, rfl, After.now (a := false) q3 g3⟩⟩
  · exact q3.elim
end
/-! methods of built-in types -/
def MtG (K : Gx) (r : V → List V → Hp → VK → Prop) (op : D → List D → Sto → Res D) : Prop := ∀ W M0 L μ H ρ σ d ds v vs Q, Good K M0 L μ H ρ σ → Rep K L (Mv M0 L μ) H d v → Reps K L (Mv M0 L μ) H ds vs → After K W M0 ρ σ L μ H (op d ds μ) (Wn K M0 Q) → r v vs H Q
def tyB (T : String) : D → Bool
  | .lst _ => decide (T = "list")
  | .frl _ => decide (T = "list")
  | .str _ => decide (T = "str")
  | .dK _ _ => decide (T = "dict")
  | .dT _ _ => decide (T = "dict")
  | _ => false
def eBM (T : String) (op : D → List D → Sto → Res D) (f : FD) (fa : Env → Sto → Res (List D)) : FD := fun ρ μ => (f ρ μ).bind fun d μ1 => if tyB T (cOf μ1 d) then (fa ρ μ1).bind fun ds μ2 => op d ds μ2 else .bad
def eBM0 (T : String) (op : D → List D → Sto → Res D) (f : FD) : FD := fun ρ μ => (f ρ μ).bind fun d μ1 => if tyB T (cOf μ1 d) then op d [] μ1 else .bad
section
variable {K : Gx} {W : WX} {M0 : Addr → Prop} {L L' : List Addr} {H H' : Hp} {μ μ' : Sto} {ρ ρ' : Env} {σ σ' : L2.St} {d : D} {v : V}
theorem cOf_rep (s : SR K M0 L μ H) (r : Rep K L (Mv M0 L μ) H d v) : cOf μ d = d ∨ ∃ a, v = .ref a ∧ Cont K L (Mv M0 L μ) H (cOf μ d) a := by
  cases d with
  | own n =>
    cases z : μ[n]? with
    | none => left; simp only [cOf, z]
    | some o =>
      cases o with
      | none => left; simp only [cOf, z]
      | some c =>
        obtain ⟨a, rfl, h1⟩ := r
        obtain ⟨b, e, ct⟩ := s.cont n c z
        rw [h1] at e
        cases e
        right
        simp only [cOf, z]
        exact ⟨a, rfl, ct⟩
  | _ => exact .inl rfl
theorem tyB_of {T : String} (s : SR K M0 L μ H) (r : Rep K L (Mv M0 L μ) H d v) (nf : ∀ ks l, d ≠ .dK ks l) (nt : ∀ ks l, d ≠ .dT ks l) (h : tyB T (cOf μ d) = true) : tyV K.K T v H := by
  cases z : cOf μ d with
  | lst l =>
    rw [z] at h
    obtain ⟨a, vs, rfl, h1, _⟩ := lst_of s r z
    exact .inl ⟨of_decide_eq_true h, vs, SqL.of h1⟩
  | frl l =>
    rw [z] at h
    have := sc_of s r z (fun _ _ _ _ z => z) (fun _ z => nomatch z)
    subst this
    obtain ⟨a, vs, rfl, h1, _⟩ := r
    exact .inl ⟨of_decide_eq_true h, vs, h1.l⟩
  | str x =>
    rw [z] at h
    rw [str_of s r z]
    show T = "str"
    exact of_decide_eq_true h
  | dK ks l =>
    rw [z] at h
    rcases cOf_rep s r with e | ⟨a, rfl, ct⟩
    · rw [z] at e
      exact absurd e.symm (nf _ _)
    · rw [z] at ct
      obtain ⟨vs, h1, _⟩ := ct
      exact .inr (.inr (.inl ⟨of_decide_eq_true h, .inl ⟨_, h1⟩⟩))
  | dT ks l =>
    rw [z] at h
    rcases cOf_rep s r with e | ⟨a, rfl, ct⟩
    · rw [z] at e
      exact absurd e.symm (nt _ _)
    · rw [z] at ct
      obtain ⟨vs, h1, _⟩ := ct
      exact .inr (.inr (.inl ⟨of_decide_eq_true h, .inr ⟨_, h1⟩⟩))
  | _ => rw [z] at h; cases h
end
section
variable {X : Cx} {ea : Option (Addr × Option Addr)} {W : WX} {o e : Expr} {es : List Expr} {f : FD} {fa : Env → Sto → Res (List D)} {name : Str} {apos cpos : Pos} {T id : String} {r : V → List V → Hp → VK → Prop} {op : D → List D → Sto → Res D}
/-- of lists and texts -/
theorem pd_bm (pa : PlainAttrs T) (slot : Slot T name id) (hty : typeOf (.builtin id) = pure (.type "method_descriptor")) (hm : MtR X id r) (hg : MtG (gx X ea) r op) (hT : T ≠ "dict") (ho : PE X o (tD (gx X ea) W f)) (ha : PA X (e :: es) (tDA (gx X ea) W fa))
    (hbase : attributeBase o name X.env (eval o X.env) = eval o X.env := by rfl)
    (hfew : ((backTo cpos (starEach (e :: es) X.env)).all (fun x => !x.1) && (backToKw cpos (keywordEach [] X.env)).all (fun x => x.1.isSome)
      && decide ((e :: es).length + ([] : List Keyword).length + (if ([] : List Keyword).isEmpty then 0 else 1) < 30)) = true := by rfl)
    (hline : (apos.endLine == cpos.line) = true := by rfl) (hs : starEach (e :: es) X.env = (false, eval e X.env) :: starEach es X.env := by rfl) (hplain : (backTo cpos (starEach es X.env)).any (·.1) = false := by rfl) :
    PE X (.Call (.Attribute o name apos) (e :: es) [] cpos) (tD (gx X ea) W (eBM T op f fa)) := peI (pe_bm pa slot hty hm ho ha hbase hfew hline hs hplain) fun σ H Q ⟨M0, L, μ, ρ, gd, q⟩ =>
  ⟨M0, L, μ, ρ, gd, q.bind gd fun d L1 μ1 H1 g1 c1 q1 v rv => by
    by_cases z : tyB T (cOf μ1 d) = true
    · rw [if_pos z] at q1
      exact ⟨tyB_of g1.sr rv (fun ks l e => by subst e; exact hT (of_decide_eq_true z)) (fun ks l e => by subst e; exact hT (of_decide_eq_true z)) z, M0, L1, μ1, ρ, g1, q1.bind g1 fun ds L2 μ2 H2 g2 c2 q2 vs rvs => hg _ _ _ _ _ _ _ _ _ _ _ _ g2 (g1.mono c2 rv) rvs q2⟩
    · rw [if_neg z] at q1
      exact q1.elim⟩
theorem pd_bm0 (pa : PlainAttrs T) (slot : Slot T name id) (hty : typeOf (.builtin id) = pure (.type "method_descriptor")) (hm : MtR X id r) (hg : MtG (gx X ea) r op) (hT : T ≠ "dict") (ho : PE X o (tD (gx X ea) W f))
    (hbase : attributeBase o name X.env (eval o X.env) = eval o X.env := by rfl) (hline : (apos.endLine == cpos.line) = true := by rfl) :
    PE X (.Call (.Attribute o name apos) [] [] cpos) (tD (gx X ea) W (eBM0 T op f)) := peI (pe_bm0 pa slot hty hm ho hbase hline) fun σ H Q ⟨M0, L, μ, ρ, gd, q⟩ =>
  ⟨M0, L, μ, ρ, gd, q.bind gd fun d L1 μ1 H1 g1 c1 q1 v rv => by
    by_cases z : tyB T (cOf μ1 d) = true
    · rw [if_pos z] at q1
      exact ⟨tyB_of g1.sr rv (fun ks l e => by subst e; exact hT (of_decide_eq_true z)) (fun ks l e => by subst e; exact hT (of_decide_eq_true z)) z, hg _ _ _ _ _ _ _ _ _ _ _ _ g1 rv Reps.nil q1⟩
    · rw [if_neg z] at q1
      exact q1.elim⟩
end
/-- a label's list is changed -/
theorem SR.lst {K : Gx} {M0 : Addr → Prop} {L : List Addr} {H : Hp} {μ : Sto} {n : Nat} {a : Addr} {l l' : List D} {vs' : List V} (s : SR K M0 L μ H) (hn : μ[n]? = some (some (.lst l))) (ha : L[n]? = some a) (r : Reps K L (Mv M0 L μ) H l' vs') :
    SR K M0 L (μ.set n (some (.lst l'))) (upd H a (.lst vs')) ∧ Ch L μ H L (μ.set n (some (.lst l'))) (upd H a (.lst vs')) := by
  refine s.write hn ha ⟨vs', upd_same, ?_⟩
  have lv : Live L μ a := ⟨n, _, ha, hn⟩
  obtain ⟨o0, h0, nt, nf, _⟩ := s.live_mut lv
  have hl : n < μ.length := (List.getElem?_eq_some_iff.mp hn).1
  refine Reps.mono0 ⟨[], by simp⟩ (fun b _ m => ?_) (fun b u nm e => ?_) (fun b vs e => ?_) (fun b q u e => ?_) _ _ r
  · rcases m with ⟨k, d', e1, e2⟩ | m
    · by_cases z : k = n
      · subst z
        exact .inl ⟨k, _, e1, hn⟩
      · rw [List.getElem?_set_ne (Ne.symm z)] at e2
        exact .inl ⟨k, d', e1, e2⟩
    · exact .inr m
  · rw [upd_ne (fun z => nm (.inl (by subst z; exact lv)))]
    exact e
  · rw [upd_ne (fun z => by rw [z, h0] at e; exact nt vs (Option.some.inj e))]
    exact e
  · rw [upd_ne (fun z => by rw [z, h0] at e; exact nf q u (Option.some.inj e))]
    exact e
theorem own_lst {K : Gx} {M0 : Addr → Prop} {L : List Addr} {H : Hp} {μ : Sto} {n : Nat} {l : List D} {v : V} (s : SR K M0 L μ H) (r : Rep K L (Mv M0 L μ) H (.own n) v) (hn : μ[n]? = some (some (.lst l))) : ∃ a vs, v = .ref a ∧ L[n]? = some a ∧ H a = some (.lst vs) ∧ Reps K L (Mv M0 L μ) H l vs := by
  obtain ⟨a, rfl, h1⟩ := r
  obtain ⟨b, e, vs, h2, h3⟩ := s.cont n _ hn
  rw [h1] at e
  cases e
  exact ⟨a, vs, rfl, h1, h2, h3⟩
/-- the own list of a label -/
def lstOf (μ : Sto) (n : Nat) : Option (List D) := match μ[n]? with
  | some (some (.lst l)) => some l
  | _ => none
theorem lstOf_eq {μ : Sto} {n : Nat} {l : List D} (h : lstOf μ n = some l) : μ[n]? = some (some (.lst l)) := by
  unfold lstOf at h
  split at h
  · rename_i l' e
    cases h
    exact e
  · cases h
def oAppend : D → List D → Sto → Res D
  | .own n, [e], μ => match lstOf μ n with
    | some l => if l.length < 16777216 then .ok .non (μ.set n (some (.lst (l ++ [e])))) else .bad
    | none => .bad
  | _, _, _ => .bad
theorem mg_append {K : Gx} : MtG K rAppend oAppend := by
  intro W M0 L μ H ρ σ d ds v vs Q g rd rs q
  unfold oAppend at q
  split at q
  · rename_i n e
    split at q
    · rename_i l z
      by_cases y : l.length < 16777216
      · rw [if_pos y] at q
        obtain ⟨a, us, rfl, h1, h2, h3⟩ := own_lst g.sr rd (lstOf_eq z)
        obtain ⟨w, rfl, rw'⟩ := rs.one
        have S := g.sr.lst (lstOf_eq z) h1 (h3.app (Reps.cons rw' Reps.nil))
        exact ⟨a, us, w, rfl, rfl, h2, by rw [← h3.length, sizeLine_eq]; exact y, q.to g S _ rfl⟩
      · rw [if_neg y] at q
        exact q.elim
    · exact q.elim
  · exact q.elim
def sLst : D → D → D → Sto → Option Sto
  | .own n, .int k, d, μ => match lstOf μ n with
    | some l => (ixN l.length k).map fun j => μ.set n (some (.lst (l.set j d)))
    | none => none
  | _, _, _, _ => none
theorem sg_list {K : Gx} : SetG K rSetL sLst := by
  intro M0 L μ H ρ σ o i d ov iv v Q g ro ri rd q
  unfold sLst at q
  split at q
  · rename_i μ' z
    split at z
    · rename_i n k
      split at z
      · rename_i l y
        cases t : ixN l.length k with
        | none => rw [t] at z; cases z
        | some j =>
          rw [t] at z
          cases z
          obtain ⟨a, us, rfl, h1, h2, h3⟩ := own_lst g.sr ro (lstOf_eq y)
          have S := g.sr.lst (lstOf_eq y) h1 (h3.set j rd)
          exact ⟨a, us, k, j, rfl, ri, h2, by rw [← h3.length]; exact t, q _ S.1 S.2⟩
      · cases z
    · cases z
  · exact q.elim
/-- remove of a whole number -/
def oRemI : D → List D → Sto → Res D
  | .own n, [.int k], μ => match lstOf μ n with
    | some l => match intsD l with
      | some ns => if k ∈ ns then .ok .non (μ.set n (some (.lst ((ns.erase k).map .int)))) else .bad
      | none => .bad
    | none => .bad
  | _, _, _ => .bad
theorem first_of {α : Type} [DecidableEq α] : ∀ {ns : List α} {k : α}, k ∈ ns → ∃ j : Nat, ns[j]? = some k ∧ (∀ m : Nat, m < j → ns[m]? ≠ some k) ∧ ns.eraseIdx j = ns.erase k
  | a :: r, k, h => by
    by_cases e : a = k
    · exact ⟨0, by simp [e], fun m hm => absurd hm (Nat.not_lt_zero _), by simp [e]⟩
    · have h' : k ∈ r := by
        rcases List.mem_cons.mp h with z | z
        · exact absurd z.symm e
        · exact z
      obtain ⟨j, h1, h2, h3⟩ := first_of h'
      refine ⟨j + 1, by simpa using h1, fun m hm => ?_, ?_⟩
      · cases m with
        | zero => simpa using e
        | succ m => simpa using h2 m (by omega)
      · rw [List.eraseIdx_cons_succ, h3, List.erase_cons_tail (by simpa using e)]
theorem reps_ints {K : Gx} {L : List Addr} {M : Addr → Prop} {H : Hp} : ∀ ns : List Int, Reps K L M H (ns.map .int) (ns.map V.int)
  | [] => rfl
  | n :: ns => ⟨_, _, rfl, rfl, reps_ints ns⟩
theorem mg_remI {K : Gx} : MtG K rRemI oRemI := by
  intro W M0 L μ H ρ σ d ds v vs Q g rd rs q
  unfold oRemI at q
  split at q
  · rename_i n k
    split at q
    · rename_i l z
      split at q
      · rename_i ns y
        by_cases hk : k ∈ ns
        · rw [if_pos hk] at q
          obtain ⟨a, us, rfl, h1, h2, h3⟩ := own_lst g.sr rd (lstOf_eq z)
          obtain ⟨w, rfl, rw'⟩ := rs.one
          have e := ints_rep h3 y
          subst e
          obtain ⟨j, j1, j2, j3⟩ := first_of hk
          have S := g.sr.lst (lstOf_eq z) h1 (reps_ints (ns.erase k))
          unfold rRemI
          exact ⟨a, ns, k, j, rfl, by rw [show w = V.int k from rw'], h2, j1, j2, by rw [j3]; exact q.to g S _ rfl⟩
        · rw [if_neg hk] at q
          exact q.elim
      · exact q.elim
    · exact q.elim
  · exact q.elim
/-- divmod by a divisor that C takes by itself -/
def oDivmod : List D → Sto → Res D
  | [.int i, .int j], μ => if 0 < j ∧ j.natAbs.log2 < 9000 then .ok (.tup [.int (i / j), .int (i % j)]) μ else .bad
  | _, _ => .bad
theorem cg_divmod {K : Gx} : CaG K (fun xs H Q => ∃ i j, xs = [.int i, .int j] ∧ CDivP i j ∧ ∀ p, H p = none → Q (.ref p) (upd H p (.tup [.int (i / j), .int (i % j)]))) oDivmod := by
  intro W M0 L μ H ρ σ ds vs Q g rs q
  unfold oDivmod at q
  split at q
  · rename_i i j
    by_cases z : 0 < j ∧ j.natAbs.log2 < 9000
    · rw [if_pos z] at q
      obtain ⟨v, u, rfl, r1, r2⟩ := rs.two
      exact ⟨i, j, by rw [show v = V.int i from r1, show u = V.int j from r2], ⟨z.1, PyProof.noPylong_of_log2 z.2⟩, fun p hp => After.tup q g hp ⟨_, _, rfl, rfl, _, _, rfl, rfl, rfl⟩⟩
    · rw [if_neg z] at q
      exact q.elim
  · exact q.elim
/-! isinstance -/
def tyD (μ : Sto) (d : D) : Option D := match cOf μ d with
  | .non => some (.ty "NoneType")
  | .bl _ => some (.ty "bool")
  | .int _ => some (.ty "int")
  | .str _ => some (.ty "str")
  | .tup _ => some (.ty "tuple")
  | .lst _ => some (.ty "list")
  | .frl _ => some (.ty "list")
  | .dK _ _ => some (.ty "dict")
  | .dT _ _ => some (.ty "dict")
  | .obj c _ _ => some (.cls c)
  | _ => none
def valC (K : PySem.W.Frag) : D → Value
  | .ty a => .type a
  | .cls c => .ref (He.ga K c)
  | _ => .none
/-- a table of what is a kind of what, beside the built-in types -/
abbrev Kinds := D → D → Option Bool
def kind1 (tb : Kinds) : D → D → Option Bool
  | .ty a, .ty b => kitB a b
  | a, b => tb a b
def KindsOk (K : PySem.W.Frag) (tb : Kinds) : Prop := ∀ a b r, (∀ x y, ¬ (a = .ty x ∧ b = .ty y)) → tb a b = some r → PySem.W.kitOne K (valC K a) (valC K b) = some r
structure ClsOk (K : PySem.W.Frag) (c : Str) : Prop where
  cl : Cls K (He.ga K c)
  ha : PySem.W.findIn K (.ref (He.ga K c)) "__class__" = some (some (.builtin "object.__class__"))
  hn : PySem.W.specialIn K (.builtin "object.__class__") "__get__" = some (some (.builtin "getset_descriptor.__get__"))
  htk : PySem.W.takesIn K (.builtin "object.__class__") = some true
  hm : PySem.W.mroIn K (He.ga K c) (.type "object") = some true
def isOwnC : D → Bool
  | .obj _ _ _ => true
  | _ => false
theorem kind1_ok {K : PySem.W.Frag} {tb : Kinds} (h : KindsOk K tb) {a b : D} {r : Bool} (e : kind1 tb a b = some r) : PySem.W.kitOne K (valC K a) (valC K b) = some r := by
  unfold kind1 at e
  split at e
  · exact kit_ty e
  · rename_i x1 x2 n
    exact h _ _ _ (fun x y z => n x y z.1 z.2) e
theorem ty_of {K : Gx} {M0 : Addr → Prop} {L : List Addr} {H : Hp} {μ : Sto} {d t : D} {v : V} (s : SR K M0 L μ H) (r : Rep K L (Mv M0 L μ) H d v) (ok : ∀ c fs l, cOf μ d = .obj c fs l → ClsOk K.K c) (h : tyD μ d = some t) : TyX K.K H v (valC K.K t) := by
  have lk : ∀ {a vs}, SqT K.K H a vs → TyX K.K H (.ref a) (.type "tuple") := fun {a vs} q => by
    rcases q with (q | ⟨o, q⟩) | ⟨o, its, n, q, c, _⟩
    · exact .base (.tup q)
    · exact .fTuple q
    · exact .kTuple q c
  unfold tyD at h
  cases z : cOf μ d with
  | non =>
    rw [z] at h
    cases h
    have := sc_of s r z (fun _ _ _ _ z => z) (fun _ z => nomatch z)
    subst this
    cases r
    exact .base .non
  | bl b => rw [z] at h; cases h; rw [bl_of s r z]; exact .base (.bl b)
  | int i => rw [z] at h; cases h; rw [int_of s r z]; exact .base (.int i)
  | str i => rw [z] at h; cases h; rw [str_of s r z]; exact .base (.str i)
  | tup l => rw [z] at h; cases h; obtain ⟨a, vs, rfl, q, _⟩ := tup_of s r z; exact lk q
  | lst l => rw [z] at h; cases h; obtain ⟨a, vs, rfl, q, _⟩ := lst_of s r z; exact .base (.lst q)
  | frl l =>
    rw [z] at h
    cases h
    have := sc_of s r z (fun _ _ _ _ z => z) (fun _ z => nomatch z)
    subst this
    obtain ⟨a, vs, rfl, q, _⟩ := r
    rcases q with ⟨o, q⟩ | ⟨o, its, n, q, c, _⟩
    · exact .base (.frz q)
    · exact .kList q c
  | dK ks l =>
    rw [z] at h
    cases h
    rcases cOf_rep s r with e | ⟨a, rfl, ct⟩
    · rw [z] at e
      subst e
      obtain ⟨a, vs, rfl, _, q, _⟩ := r
      rcases q with q | ⟨o, q⟩
      · exact .base (.dK q)
      · exact .fDict q
    · rw [z] at ct
      obtain ⟨vs, h1, _⟩ := ct
      exact .base (.dK h1)
  | obj c fs l =>
    have ck := ok c fs l z
    rw [z] at h
    cases h
    rcases cOf_rep s r with e | ⟨a, rfl, ct⟩
    · rw [z] at e
      subst e
      obtain ⟨a, dx, vs, rfl, _, q, _⟩ := r
      exact .base (.ins q ck.cl ck.ha ck.hn ck.htk ck.hm)
    · rw [z] at ct
      obtain ⟨dx, vs, h1, _⟩ := ct
      exact .base (.ins h1 ck.cl ck.ha ck.hn ck.htk ck.hm)
  | dT ks l =>
    rw [z] at h
    cases h
    rcases cOf_rep s r with e | ⟨a, rfl, ct⟩
    · rw [z] at e
      subst e
      obtain ⟨a, vs, rfl, _, q, _⟩ := r
      exact .base (.dT q)
    · rw [z] at ct
      obtain ⟨vs, h1, _⟩ := ct
      exact .base (.dT h1)
  | _ => rw [z] at h; cases h
end DL
end

section
set_option Elab.async false
set_option linter.all false
set_option autoImplicit false
set_option maxRecDepth 100000
set_option maxHeartbeats 1000000
namespace DL
open PySem PySem.Spec PyProof.Rows L2
section
variable {K : Gx} {W : WX} {M0 : Addr → Prop} {L L' : List Addr} {H H' : Hp} {μ μ' : Sto} {ρ ρ' : Env} {σ σ' : L2.St}
theorem AfF.bind {α : Type} {r : Res α} {k : α → Sto → Res D} {Q : VK} {P1 : α → List Addr → Sto → Hp → Prop} (g : Good K M0 L μ H ρ σ) (h : AfF K W M0 ρ σ L μ H (r.bind k) Q)
    (c : ∀ a L1 μ1 H1, Good K M0 L1 μ1 H1 ρ σ → Ch L μ H L1 μ1 H1 → AfF K W M0 ρ σ L1 μ1 H1 (k a μ1) Q → P1 a L1 μ1 H1) : After K W M0 ρ σ L μ H r P1 := by
  cases r with
  | ok a μ1 => exact fun L1 H1 g1 c1 => c a L1 μ1 H1 g1 c1 (AfF.rebase g g1 c1 h)
  | ex x μ1 => exact h
  | bad => exact h
theorem AfF.lst {p : Addr} {ds : List D} {vs : List V} {Q : VK} (h : AfF K W M0 ρ σ L μ H (.ok (.lst ds) μ) Q) (g : Good K M0 L μ H ρ σ) (hp : H p = none) (r : Reps K L (Mv M0 L μ) H ds vs) : Q (.ref p) (upd H p (.lst vs)) :=
  h p L _ (g.lock hp) (g.sr.new hp).2 hp ⟨vs, upd_same, r.lock hp⟩
end
section
variable {X : Cx} {ea : Option (Addr × Option Addr)} {W : WX} {a b e : Expr} {f g : FD} {pos : Pos}
/-! a module's constant, a class -/
theorem pd_glob {x : Str} {d : D} {v : V} {u : Value} (hg : Gl X x) (hm : X.mg x = some u) (r : RelV v u) (hr : ∀ L M H, Rep (gx X ea) L M H d v) (hd : (x == ("__debug__" : Str)) = false := by decide) : PE X (.Name x pos) (tD (gx X ea) W (eC d)) := peI (pe_glob hg hm r hd) (tC_tD hr)
theorem pd_cls {x : Str} (hg : Gl X x) (hm : X.mg x = some (.ref (He.ga X.K x))) (hd : (x == ("__debug__" : Str)) = false := by decide) : PE X (.Name x pos) (tD (gx X ea) W (eC (.cls x))) := pd_glob (v := .ref (He.ga X.K x)) hg hm rfl (fun _ _ _ => rfl) hd
theorem pd_blt {x : Str} {T : String} (hg : Gl X x) (hm : X.mg x = none) (hv : bootBuiltins x = some (.type T)) (hn : x ≠ "__name__" := by decide) (hd : (x == ("__debug__" : Str)) = false := by decide) : PE X (.Name x pos) (tD (gx X ea) W (eC (.ty T))) := peI (pe_bltn (v := .ty T) hg hm hv rfl hn hd) (tC_tD fun _ _ _ => rfl)
/-! isinstance -/
def oIs (tb : Kinds) : List D → Sto → Res D
  | [d, c], μ => match tyD μ d with
    | some t => match c with
      | .ty _ => (match kind1 tb t c with
        | some b => .ok (.bl b) μ
        | none => .bad)
      | .cls _ => (match kind1 tb t c with
        | some b => .ok (.bl b) μ
        | none => .bad)
      | _ => .bad
    | none => .bad
  | _, _ => .bad
theorem cg_is {tb : Kinds} {K : Gx} (ok : ∀ c, ClsOk K.K c ∨ ∀ b, tb (.cls c) b = none) (hk : KindsOk K.K tb) : CaG K (rIsi K.K) (oIs tb) := by
  intro W M0 L μ H ρ σ ds vs Q g rs q
  unfold oIs at q
  split at q
  · rename_i d c
    obtain ⟨v, u, rfl, r1, r2⟩ := rs.two
    split at q
    · rename_i t ht
      have tx : ∀ b r, kind1 tb t b = some r → (∃ y, b = .ty y) ∨ (∃ y, b = .cls y) → TyX K.K H v (valC K.K t) := fun b r hb hy => ty_of g.sr r1 (fun c' fs l z => by
        rcases ok c' with o | o
        · exact o
        · have ht' : t = .cls c' := by
            unfold tyD at ht
            rw [z] at ht
            cases ht
            rfl
          subst ht'
          have : kind1 tb (.cls c') b = tb (.cls c') b := by
            rcases hy with ⟨y, rfl⟩ | ⟨y, rfl⟩ <;> rfl
          rw [this, o b] at hb
          cases hb) ht
      split at q
      · rename_i y
        split at q
        · rename_i r hr
          rw [show u = V.ty y from r2]
          exact ⟨v, .ty y, valC K.K t, .type y, r, rfl, .ty y, tx _ _ hr (.inl ⟨y, rfl⟩), kind1_ok hk hr, After.val q g rfl⟩
        · exact q.elim
      · rename_i y
        split at q
        · rename_i r hr
          rw [show u = V.ref (He.ga K.K y) from r2]
          exact ⟨v, .ref (He.ga K.K y), valC K.K t, .ref (He.ga K.K y), r, rfl, .own _, tx _ _ hr (.inr ⟨y, rfl⟩), kind1_ok hk hr, After.val q g rfl⟩
        · exact q.elim
      · exact q.elim
    · exact q.elim
  · exact q.elim
def anyK (tb : Kinds) (t : D) : List D → Option Bool
  | [] => some false
  | c :: cs => match kind1 tb t c with
    | some true => some true
    | some false => anyK tb t cs
    | none => none
def isC : D → Bool
  | .ty _ => true
  | .cls _ => true
  | _ => false
def notC : D → Bool
  | .cls _ => false
  | _ => true
/-- isinstance(x, (T, ..)) -/
def eIsT (tb : Kinds) (f : FD) (fa : Env → Sto → Res (List D)) : FD := fun ρ μ => (f ρ μ).bind fun d μ1 => (fa ρ μ1).bind fun ts μ2 => match tyD μ2 d with
  | some t => if ts.all isC && decide (ts.length ≤ 1000) && notC t then (match anyK tb t ts with
    | some b => .ok (.bl b) μ2
    | none => .bad) else .bad
  | none => .bad
theorem anyK_ok {K : PySem.W.Frag} {tb : Kinds} (hk : KindsOk K tb) {t : D} : ∀ {ts : List D} {b : Bool}, anyK tb t ts = some b → PySem.W.kitAny K (valC K t) (ts.map (valC K)) = some b
  | [], b, h => by cases h; rfl
  | c :: cs, b, h => by
    unfold anyK at h
    cases z : kind1 tb t c with
    | none => rw [z] at h; cases h
    | some r =>
      rw [z] at h
      cases r with
      | true => cases h; exact kitAny_cons (kind1_ok hk z) (fun z => nomatch z) fun _ => rfl
      | false => exact kitAny_cons (kind1_ok hk z) (fun _ => anyK_ok hk h) fun z => nomatch z
theorem clsV_of {K : Gx} {L : List Addr} {M : Addr → Prop} {H : Hp} : ∀ {ts : List D} {vs : List V}, Reps K L M H ts vs → ts.all isC = true → Paired ClsV vs (ts.map (valC K.K))
  | [], vs, h, _ => by cases h; exact .nil
  | c :: cs, vs, h, z => by
    obtain ⟨v, r, rfl, h1, h2⟩ := h
    rw [List.all_cons, Bool.and_eq_true_iff] at z
    refine .cons ?_ (clsV_of h2 z.2)
    cases c with
    | ty n => rw [show v = V.ty n from h1]; exact .ty n
    | cls n => rw [show v = V.ref _ from h1]; exact .own _
    | _ => exact nomatch z.1
theorem pd_isT {tb : Kinds} {es : List Expr} {x1 : Nat} {p pos' : Pos} {fa : Env → Sto → Res (List D)} (hk : KindsOk X.K tb) (hg : Gl X "isinstance") (hm : X.mg "isinstance" = none) (ha : PE X a (tD (gx X ea) W f)) (hes : PA X es (tDA (gx X ea) W fa))
    (he1 : starEach [a, .Tuple es x1 pos'] X.env = (false, eval a X.env) :: starEach [.Tuple es x1 pos'] X.env := by rfl) (he2 : starEach [.Tuple es x1 pos'] X.env = (false, eval (.Tuple es x1 pos') X.env) :: starEach [] X.env := by rfl) (hpl : (backTo pos (starEach [.Tuple es x1 pos'] X.env)).any (·.1) = false := by rfl) :
    PE X (.Call (.Name "isinstance" p) [a, .Tuple es x1 pos'] [] pos) (tD (gx X ea) W (eIsT tb f fa)) := peI (pe_callB call_isiT hg hm (by decide +kernel) (pa_cons ha (pa_cons (pe_tup hes) pa_nil he2) he1) (by decide) (by decide) he1 hpl) fun σ H Q ⟨M0, L, μ, ρ, gd, q⟩ =>
  ⟨M0, L, μ, ρ, gd, q.bind gd fun d L1 μ1 H1 g1 c1 q1 v rv => ⟨M0, L1, μ1, ρ, g1, q1.bind g1 fun ts L2 μ2 H2 g2 c2 q2 vs rvs => by
    cases ht : tyD μ2 d with
    | none => rw [ht] at q2; exact q2.elim
    | some t =>
      rw [ht] at q2
      simp only at q2
      by_cases hz : (ts.all isC && decide (ts.length ≤ 1000) && notC t) = true
      · rw [if_pos hz] at q2
        have hz1 := Bool.and_eq_true_iff.mp hz
        have hz2 := Bool.and_eq_true_iff.mp hz1.1
        have hl : ts.length ≤ 1000 := of_decide_eq_true hz2.2
        split at q2
        · rename_i r hr
          refine ⟨line_le (by rw [← rvs.length]; omega), fun p hp => ⟨v, p, vs, valC X.K t, ts.map (valC X.K), r, rfl, upd_same, clsV_of rvs hz2.1, ?_, anyK_ok hk hr, ?_⟩⟩
          · have S := g2.sr.new (o := .tup vs) hp
            refine ty_of S.1 ((g1.mono c2 rv).mono g2.sr.len S.2) (fun c' fs l z => ?_) ht
            have ht' : t = .cls c' := by
              unfold tyD at ht
              rw [z] at ht
              cases ht
              rfl
            subst ht'
            exact nomatch hz1.2
          · have S := g2.sr.new (o := .tup vs) hp
            exact q2.to g2 S (.bl r) rfl
        · exact q2.elim
      · rw [if_neg hz] at q2
        exact q2.elim⟩⟩
/-! slices -/
def cutG {α : Type} (xs : List α) (lo hi : Option Int) : List α := (xs.drop (HT.sIx xs.length 0 lo)).take (HT.sIx xs.length xs.length hi - HT.sIx xs.length 0 lo)
theorem Reps.cutv {K : Gx} {L : List Addr} {M : Addr → Prop} {H : Hp} {ds : List D} {vs : List V} (r : Reps K L M H ds vs) (lo hi : Option Int) : Reps K L M H (cutG ds lo hi) (cutV vs lo hi) := by
  unfold cutG cutV
  rw [← r.length]
  exact (r.drop _).take _
abbrev FO := Env → Sto → Res (Option Int)
def tO (K : Gx) (W : WX) (f : FO) : TO := fun σ H Q => ∃ M0 L μ ρ, Good K M0 L μ H ρ σ ∧ After K W M0 ρ σ L μ H (f ρ μ) fun o _ _ H' => Q o H'
def oNo : FO := fun _ μ => .ok none μ
def oSo (f : FD) : FO := fun ρ μ => (f ρ μ).bind fun d μ' => match d with
  | .int i => .ok (some i) μ'
  | _ => .bad
theorem poI {e : Option Expr} {t t' : TO} (h : PO X e t) (i : ∀ σ H Q, t' σ H Q → t σ H Q) : PO X e t' := ⟨fun pins s σ H Q I q => h.run pins s σ H Q I (i _ _ _ q)⟩
theorem od_none : PO X none (tO (gx X ea) W oNo) := poI po_none fun σ H Q ⟨M0, L, μ, ρ, gd, q⟩ => After.now (a := (none : Option Int)) q gd
theorem od_some (h : PE X e (tD (gx X ea) W f)) : PO X (some e) (tO (gx X ea) W (oSo f)) := poI (po_some h) fun σ H Q ⟨M0, L, μ, ρ, gd, q⟩ =>
  ⟨M0, L, μ, ρ, gd, q.bind gd fun d L1 μ1 H1 g1 c1 q1 v rv => by
    cases d with
    | int i => exact ⟨i, rv, After.now q1 g1⟩
    | _ => exact q1.elim⟩
def lseq (μ : Sto) (d : D) : Option (List D) := match cOf μ d with
  | .lst l => some l
  | .frl l => some l
  | _ => none
theorem lseq_of {K : Gx} {M0 : Addr → Prop} {L : List Addr} {μ : Sto} {H : Hp} {d : D} {v : V} {l : List D} (s : SR K M0 L μ H) (r : Rep K L (Mv M0 L μ) H d v) (h : lseq μ d = some l) : ∃ a vs, v = .ref a ∧ SqL K.K H a vs ∧ Reps K L (Mv M0 L μ) H l vs := by
  unfold lseq at h
  split at h
  · rename_i l' z
    cases h
    obtain ⟨a, vs, e, c1, c2⟩ := lst_of s r z
    exact ⟨a, vs, e, SqL.of c1, c2⟩
  · rename_i l' z
    cases h
    have := sc_of s r z (fun _ _ _ _ z => z) (fun _ z => nomatch z)
    subst this
    obtain ⟨a, vs, e, c1, c2⟩ := r
    exact ⟨a, vs, e, c1.l, c2⟩
  · cases h
def eSlice (f : FD) (lo hi : FO) : FD := fun ρ μ => (f ρ μ).bind fun d μ1 => (lo ρ μ1).bind fun l μ2 => (hi ρ μ2).bind fun h μ3 => match lseq μ3 d with
  | some xs => .ok (.lst (cutG xs l h)) μ3
  | none => .bad
theorem pd_slice {lo hi : Option Expr} {fl fh : FO} {p2 : Pos} (he : PE X e (tD (gx X ea) W f)) (hl : PO X lo (tO (gx X ea) W fl)) (hh : PO X hi (tO (gx X ea) W fh)) : PE X (.Subscript e (.Slice lo hi none p2) pos) (tF (gx X ea) W (eSlice f fl fh)) := peI (pe_slice sl_list he hl hh) fun σ H Q ⟨M0, L, μ, ρ, gd, q⟩ =>
  ⟨M0, L, μ, ρ, gd, AfF.bind gd q fun d L1 μ1 H1 g1 c1 q1 v rv => ⟨M0, L1, μ1, ρ, g1, AfF.bind g1 q1 fun l L2 μ2 H2 g2 c2 q2 => ⟨M0, L2, μ2, ρ, g2, AfF.bind g2 q2 fun h L3 μ3 H3 g3 c3 q3 => by
    split at q3
    · rename_i xs z
      obtain ⟨a, vs, rfl, sq, rs⟩ := lseq_of g3.sr (g2.mono c3 (g1.mono c2 rv)) z
      exact ⟨a, vs, rfl, sq, fun p hp => AfF.lst q3 g3 hp (rs.cutv l h)⟩
    · exact q3.elim⟩⟩⟩
def eSliceT (f : FD) (lo hi : FO) : FD := fun ρ μ => (f ρ μ).bind fun d μ1 => (lo ρ μ1).bind fun l μ2 => (hi ρ μ2).bind fun h μ3 => match cOf μ3 d with
  | .tup xs => if HT.sIx xs.length 0 l = 0 ∧ HT.sIx xs.length xs.length h = xs.length then .bad else .ok (.tup (cutG xs l h)) μ3
  | _ => .bad
theorem pd_sliceT {lo hi : Option Expr} {fl fh : FO} {p2 : Pos} (he : PE X e (tD (gx X ea) W f)) (hl : PO X lo (tO (gx X ea) W fl)) (hh : PO X hi (tO (gx X ea) W fh)) : PE X (.Subscript e (.Slice lo hi none p2) pos) (tD (gx X ea) W (eSliceT f fl fh)) := peI (pe_slice sl_tup he hl hh) fun σ H Q ⟨M0, L, μ, ρ, gd, q⟩ =>
  ⟨M0, L, μ, ρ, gd, q.bind gd fun d L1 μ1 H1 g1 c1 q1 v rv => ⟨M0, L1, μ1, ρ, g1, q1.bind g1 fun l L2 μ2 H2 g2 c2 q2 => ⟨M0, L2, μ2, ρ, g2, q2.bind g2 fun h L3 μ3 H3 g3 c3 q3 => by
    split at q3
    · rename_i xs z
      split at q3
      · exact q3.elim
      · rename_i ne
        obtain ⟨a, vs, rfl, sq, rs⟩ := tup_of g3.sr (g2.mono c3 (g1.mono c2 rv)) z
        exact ⟨a, vs, rfl, sq, by rw [← rs.length]; exact ne, fun p hp => After.tup q3 g3 hp (rs.cutv l h)⟩
    · exact q3.elim⟩⟩⟩
/-! list * int, list(range(..)), list(xs), tuple(xs) -/
def eRep (f g : FD) : FD := fun ρ μ => (f ρ μ).bind fun d μ1 => (g ρ μ1).bind fun e μ2 => match cOf μ2 d, e with
  | .lst l, .int k => if -(2 ^ 63) ≤ k ∧ k < 2 ^ 63 ∧ l.length * k.toNat ≤ 16777216 then .ok (.lst (List.replicate k.toNat l).flatten) μ2 else .bad
  | _, _ => .bad
theorem Reps.rep {K : Gx} {L : List Addr} {M : Addr → Prop} {H : Hp} {ds : List D} {vs : List V} (r : Reps K L M H ds vs) : ∀ k : Nat, Reps K L M H (List.replicate k ds).flatten (List.replicate k vs).flatten
  | 0 => rfl
  | k + 1 => by
    rw [List.replicate_succ, List.replicate_succ, List.flatten_cons, List.flatten_cons]
    exact r.app (r.rep k)
theorem pd_rep (ha : PE X a (tD (gx X ea) W f)) (hb : PE X b (tD (gx X ea) W g)) : PE X (.BinOp a .Mult b pos) (tF (gx X ea) W (eRep f g)) := peI (pe_op op_rep ha hb) fun σ H Q ⟨M0, L, μ, ρ, gd, q⟩ =>
  ⟨M0, L, μ, ρ, gd, AfF.bind gd q fun d L1 μ1 H1 g1 c1 q1 v rv => ⟨M0, L1, μ1, ρ, g1, AfF.bind g1 q1 fun e L2 μ2 H2 g2 c2 q2 u ru => by
    split at q2
    · rename_i l k z
      split at q2
      · rename_i hz
        obtain ⟨a, vs, rfl, h1, rs⟩ := lst_of g2.sr (g1.mono c2 rv) z
        exact ⟨a, k, vs, rfl, ru, h1, hz.1, hz.2.1, line_le (by rw [← rs.length]; exact hz.2.2), fun p hp => AfF.lst q2 g2 hp (rs.rep _)⟩
      · exact q2.elim
    · exact q2.elim⟩⟩
def eListOf (fa : Env → Sto → Res (List D)) : FD := fun ρ μ => (fa ρ μ).bind fun ds μ1 => match ds with
  | [d] => (match seqD μ1 d with
    | some l => .ok (.lst l) μ1
    | none => .bad)
  | _ => .bad
theorem pd_listOf {p : Pos} {fa : Env → Sto → Res (List D)} (hgl : Gl X "list") (hm : X.mg "list" = none) (ha : PA X [e] (tDA (gx X ea) W fa)) (he : starEach [e] X.env = (false, eval e X.env) :: starEach [] X.env := by rfl) :
    PE X (.Call (.Name "list" p) [e] [] pos) (tF (gx X ea) W (eListOf fa)) := peI (pe_callTy call_list_of hgl hm (by decide +kernel) ha (by decide) (by decide) he rfl) fun σ H Q ⟨M0, L, μ, ρ, gd, q⟩ =>
  ⟨M0, L, μ, ρ, gd, AfF.bind gd q fun ds L1 μ1 H1 g1 c1 q1 vs rv => by
    split at q1
    · rename_i d
      split at q1
      · rename_i l z
        obtain ⟨v, rfl, r⟩ := rv.one
        obtain ⟨a, us, rfl, sq, rs⟩ := seq_of g1.sr r z
        exact ⟨a, us, rfl, sq, fun p hp => AfF.lst q1 g1 hp rs⟩
      · exact q1.elim
    · exact q1.elim⟩
def oTupleOf : List D → Sto → Res D
  | [d], μ => match seqD μ d with
    | some l => .ok (.tup l) μ
    | none => .bad
  | _, _ => .bad
theorem cg_tupleOf : CaG (gx X ea) (fun xs H Q => ∃ p ys, xs = [.ref p] ∧ ((SqL X.K H p ys ∧ ∀ l, H l = none → Q (.ref l) (upd H l (.tup ys))) ∨ (SqT X.K H p ys ∧ Q (.ref p) H))) oTupleOf := by
  intro W M0 L μ H ρ σ ds vs Q g rs q
  unfold oTupleOf at q
  split at q
  · rename_i d
    obtain ⟨v, rfl, r⟩ := rs.one
    split at q
    · rename_i l z
      obtain ⟨a, us, rfl, sq, r'⟩ := seq_of g.sr r z
      rcases sq with sq | sq
      · exact ⟨a, us, rfl, .inl ⟨sq, fun p hp => After.tup q g hp r'⟩⟩
      · exact ⟨a, us, rfl, .inr ⟨sq, After.val q g ⟨a, us, rfl, sq, r'⟩⟩⟩
    · exact q.elim
  · exact q.elim
/-- list(range(n)) -/
def eListRng (fa : Env → Sto → Res (List D)) : FD := fun ρ μ => (fa ρ μ).bind fun ds μ1 => match ds with
  | [.int n] => if 0 ≤ n ∧ n ≤ 16777216 then .ok (.lst (rngD 0 n.toNat)) μ1 else .bad
  | _ => .bad
theorem reps_rng {K : Gx} {L : List Addr} {M : Addr → Prop} {H : Hp} (lo : Int) (n : Nat) : Reps K L M H (rngD lo n) ((List.range n).map fun i : Nat => V.int (lo + (i : Int))) := by
  have aux : ∀ (l : List Nat), Reps K L M H (l.map fun k : Nat => D.int (lo + (k : Int))) (l.map fun i : Nat => V.int (lo + (i : Int))) := fun l => by
    induction l with
    | nil => rfl
    | cons a l ih => exact ⟨_, _, rfl, rfl, ih⟩
  exact aux _
theorem pd_listRng {p p2 q2 : Pos} (hc : X.calm = true) (hg : Gl X "list") (hm : X.mg "list" = none) (hg2 : Gl X "range") (hm2 : X.mg "range" = none) (ha : PE X a (tD (gx X ea) W f)) (na : starEach [a] X.env = (false, eval a X.env) :: starEach [] X.env := by rfl)
    (na2 : starEach [.Call (.Name "range" p2) [a] [] q2] X.env = (false, eval (.Call (.Name "range" p2) [a] [] q2) X.env) :: starEach [] X.env := by rfl) :
    PE X (.Call (.Name "list" p) [.Call (.Name "range" p2) [a] [] q2] [] pos) (tF (gx X ea) W (eListRng (aC f aN))) := peI (pe_listRg hc hg hm (prg_1 hg2 hm2 ha na) na2) fun σ H Q ⟨M0, L, μ, ρ, gd, q⟩ => by
  refine ⟨M0, L, μ, ρ, gd, ?_⟩
  have q0 : AfF (gx X ea) W M0 ρ σ L μ H (eListRng (aC f aN) ρ μ) Q := q
  have e : eListRng (aC f aN) ρ μ = (f ρ μ).bind fun d μ1 => match d with
    | .int n => if 0 ≤ n ∧ n ≤ 16777216 then .ok (.lst (rngD 0 n.toNat)) μ1 else .bad
    | _ => .bad := by
    unfold eListRng aC aN
    cases f ρ μ with
    | ok d μ1 => cases d <;> rfl
    | ex _ _ => rfl
    | bad => rfl
  rw [e] at q0
  refine AfF.bind gd q0 fun d L1 μ1 H1 g1 c1 q1 v rv => ?_
  cases d with
  | int n =>
    simp only at q1
    by_cases z : 0 ≤ n ∧ n ≤ 16777216
    · rw [if_pos z] at q1
      refine ⟨n, rv, RgOk.of_le (Int.le_refl _) z.2 (by decide) z.1, fun p hp => ?_⟩
      have r := reps_rng (K := gx X ea) (L := L1) (M := Mv M0 L1 μ1) (H := H1) 0 n.toNat
      have e2 : rgV 0 n = (List.range n.toNat).map fun i : Nat => V.int (0 + (i : Int)) := by
        unfold rgV
        rw [Int.sub_zero]
      rw [e2]
      exact AfF.lst q1 g1 hp r
    · rw [if_neg z] at q1
      exact q1.elim
  | _ => exact q1.elim
end
end DL
end

section
set_option Elab.async false
set_option linter.all false
set_option autoImplicit false
set_option maxRecDepth 100000
set_option maxHeartbeats 1000000
namespace DL
open PySem PySem.Spec PyProof.Rows L2
/-! raise -/
def sRaise (x : Ex) : FS := fun ρ μ => .ex x ρ μ
section
variable {X : Cx} {W : WX} {pos : Pos} {e : Expr}
/-- X() -/
theorem pmk_own0 {C : Addr} {bmB : List Value} {B newId initId : String} {x : Str} {p : Pos} (F : ExcBaseFacts B newId initId bmB) (q : PySem.W.excIn X.K C bmB newId = true) (gC : X.mg x = some (.ref C)) (kC : PySem.W.keepIn X.K (.ref C) = true) (r : Raises X (.ref C)) (hg : Gl X x)
    (hdb : (x == ("__debug__" : Str)) = false := by decide) : L2N.PMk X (.Call (.Name x p) [] [] pos) (fun _ H Q => Q (.ref C) none H) := by
  intro pins s σ H Q I h
  refine wpAny_Call_Name_kw (ld_glob I hg gC ?_ hdb)
  refine PySem.W.callWith_K0 I.kIn kC ?_
  show wpAny _ _ (call (.ref C) []) _ _ _
  obtain ⟨bm, N, nm, qn, bs, hdct, sn, sub, ab, col, dd, k0, k1, k2, k3, k5, mN, hC, hN, hni, T⟩ := exc_obj I.kIn q
  refine wpAny_call_exc_subT F T hC hN hni (fun h' e hm => ?_) (by show 0 ≤ sizeLine; rw [sizeLine_eq]; omega)
  exact L2N.mk_of I hm r h (I.hok.gone hm.new)
theorem sd_raise {c : Str} (hc : X.calm = true) (tk : L2N.Takes X W) (he : L2N.PMk X e (fun _ H Q => Q (.ref (He.ga X.K c)) none H)) : PS X (.Raise (some e) none pos) (tS (gx X none) W (sRaise ⟨c, none⟩)) := psI (L2N.ps_raise hc tk he) fun E σ H ⟨M0, L, μ, ρ, gd, q⟩ =>
  q _ none σ L H gd (Ch.refl _ _ _) ⟨rfl, rfl⟩
end
/-! the handled exception -/
mutual
def noErr : D → Bool
  | .err _ _ _ _ => false
  | .tup l => noErrs l
  | .lst l => noErrs l
  | .frl l => noErrs l
  | .dK _ l => noErrs l
  | .dT _ l => noErrs l
  | .obj _ _ l => noErrs l
  | _ => true
def noErrs : List D → Bool
  | [] => true
  | d :: ds => noErr d && noErrs ds
end
section
variable {K : PySem.W.Frag} {e1 e2 : Option (Addr × Option Addr)} {L : List Addr} {M : Addr → Prop} {H : Hp}
mutual
theorem rep_to : ∀ (d : D) (v : V), noErr d = true → Rep ⟨K, e1⟩ L M H d v → Rep ⟨K, e2⟩ L M H d v
  | .non, _, _, h => h
  | .bl _, _, _, h => h
  | .int _, _, _, h => h
  | .str _, _, _, h => h
  | .ref _, _, _, h => h
  | .ty _, _, _, h => h
  | .own _, _, _, h => h
  | .cls _, _, _, h => h
  | .tup l, v, z, h => by
    obtain ⟨a, vs, e, s, r⟩ := h
    exact ⟨a, vs, e, s, reps_to l vs z r⟩
  | .lst l, v, z, h => by
    obtain ⟨a, vs, e, m, s, r⟩ := h
    exact ⟨a, vs, e, m, s, reps_to l vs z r⟩
  | .frl l, v, z, h => by
    obtain ⟨a, vs, e, s, r⟩ := h
    exact ⟨a, vs, e, s, reps_to l vs z r⟩
  | .dK ks l, v, z, h => by
    obtain ⟨a, vs, e, m, s, r, q⟩ := h
    exact ⟨a, vs, e, m, s, reps_to l vs z r, q⟩
  | .dT ks l, v, z, h => by
    obtain ⟨a, vs, e, m, s, r, q⟩ := h
    exact ⟨a, vs, e, m, s, reps_to l vs z r, q⟩
  | .obj c fs l, v, z, h => by
    obtain ⟨a, dx, vs, e, m, s, r, q⟩ := h
    exact ⟨a, dx, vs, e, m, s, reps_to l vs z r, q⟩
theorem reps_to : ∀ (ds : List D) (vs : List V), noErrs ds = true → Reps ⟨K, e1⟩ L M H ds vs → Reps ⟨K, e2⟩ L M H ds vs
  | [], _, _, h => h
  | d :: ds, vs, z, h => by
    obtain ⟨v, r, e, h1, h2⟩ := h
    have z' : (noErr d && noErrs ds) = true := z
    rw [Bool.and_eq_true_iff] at z'
    exact ⟨v, r, e, rep_to d v z'.1 h1, reps_to ds r z'.2 h2⟩
end
mutual
theorem rep_noErr : ∀ (d : D) (v : V), Rep ⟨K, none⟩ L M H d v → noErr d = true
  | .non, _, _ => rfl
  | .bl _, _, _ => rfl
  | .int _, _, _ => rfl
  | .str _, _, _ => rfl
  | .ref _, _, _ => rfl
  | .ty _, _, _ => rfl
  | .own _, _, _ => rfl
  | .cls _, _, _ => rfl
  | .err _ _ _ _, v, h => by
    obtain ⟨a, od, e, _⟩ := h
    cases e
  | .tup l, v, h => by
    obtain ⟨a, vs, e, s, r⟩ := h
    exact reps_noErr l vs r
  | .lst l, v, h => by
    obtain ⟨a, vs, e, m, s, r⟩ := h
    exact reps_noErr l vs r
  | .frl l, v, h => by
    obtain ⟨a, vs, e, s, r⟩ := h
    exact reps_noErr l vs r
  | .dK ks l, v, h => by
    obtain ⟨a, vs, e, m, s, r, q⟩ := h
    exact reps_noErr l vs r
  | .dT ks l, v, h => by
    obtain ⟨a, vs, e, m, s, r, q⟩ := h
    exact reps_noErr l vs r
  | .obj c fs l, v, h => by
    obtain ⟨a, dx, vs, e, m, s, r, q⟩ := h
    exact reps_noErr l vs r
theorem reps_noErr : ∀ (ds : List D) (vs : List V), Reps ⟨K, none⟩ L M H ds vs → noErrs ds = true
  | [], _, _ => rfl
  | d :: ds, vs, h => by
    obtain ⟨v, r, e, h1, h2⟩ := h
    show (noErr d && noErrs ds) = true
    rw [rep_noErr d v h1, reps_noErr ds r h2]
    rfl
end
theorem cont_to {d : D} {a : Addr} (z : noErr d = true) (h : Cont ⟨K, e1⟩ L M H d a) : Cont ⟨K, e2⟩ L M H d a := by
  cases d with
  | lst l => obtain ⟨vs, e, r⟩ := h; exact ⟨vs, e, reps_to _ _ z r⟩
  | dK ks l => obtain ⟨vs, e, r, q⟩ := h; exact ⟨vs, e, reps_to _ _ z r, q⟩
  | dT ks l => obtain ⟨vs, e, r, q⟩ := h; exact ⟨vs, e, reps_to _ _ z r, q⟩
  | obj c fs l => obtain ⟨dx, vs, e, r, q⟩ := h; exact ⟨dx, vs, e, reps_to _ _ z r, q⟩
  | _ => exact h.elim
theorem cont_noErr {d : D} {a : Addr} (h : Cont ⟨K, none⟩ L M H d a) : noErr d = true := by
  cases d with
  | lst l => obtain ⟨vs, e, r⟩ := h; exact reps_noErr _ _ r
  | dK ks l => obtain ⟨vs, e, r, q⟩ := h; exact reps_noErr _ _ r
  | dT ks l => obtain ⟨vs, e, r, q⟩ := h; exact reps_noErr _ _ r
  | obj c fs l => obtain ⟨dx, vs, e, r, q⟩ := h; exact reps_noErr _ _ r
  | _ => exact h.elim
end
section
variable {K : PySem.W.Frag} {e1 e2 : Option (Addr × Option Addr)} {M0 : Addr → Prop} {L L' : List Addr} {H H' : Hp} {μ μ' : Sto} {ρ ρ' : Env} {σ σ' : L2.St}
/-- all that is left of the exception is in no slot and in no store -/
def Clean (ρ' ρ2 : Env) (μ' μ2 : Sto) : Prop := (∀ (j : Nat) d, ρ2[j]? = some (some d) → ρ'[j]? = some (some d) ∨ noErr d = true) ∧ ∀ (n : Nat) d, μ2[n]? = some (some d) → μ'[n]? = some (some d) ∨ noErr d = true
theorem SR.to (s : SR ⟨K, e1⟩ M0 L μ H) (h : ∀ (n : Nat) d, μ[n]? = some (some d) → noErr d = true) : SR ⟨K, e2⟩ M0 L μ H :=
  ⟨s.len, s.nd, s.tr, s.trM, fun n d e => let ⟨a, h1, h2⟩ := s.cont n d e; ⟨a, h1, cont_to (h n d e) h2⟩⟩
theorem Good.to (g : Good ⟨K, e1⟩ M0 L μ H ρ σ) (h : ∀ (n : Nat) d, μ[n]? = some (some d) → noErr d = true) (h2 : ∀ (n : Nat) d, ρ[n]? = some (some d) → noErr d = true) : Good ⟨K, e2⟩ M0 L μ H ρ σ :=
  ⟨g.sr.to h, g.ev.len, fun i d e => let ⟨v, h3, h4⟩ := g.ev.at_ i d e; ⟨v, h3, rep_to d v (h2 i d e) h4⟩⟩
theorem Good.clean (g : Good ⟨K, none⟩ M0 L μ H ρ σ) : (∀ (n : Nat) d, μ[n]? = some (some d) → noErr d = true) ∧ ∀ (n : Nat) d, ρ[n]? = some (some d) → noErr d = true :=
  ⟨fun n d e => let ⟨a, _, c⟩ := g.sr.cont n d e; cont_noErr c, fun i d e => let ⟨v, _, r⟩ := g.ev.at_ i d e; rep_noErr d v r⟩
end
def exErr (x : Ex) : D := match x.fs with
  | none => .err x.c false [] []
  | some (fs, l) => .err x.c true fs l
open Classical in
/-- try: .. except C as n: ..; n in slot i -/
noncomputable def sTry (g : FS) (sub : Str → Bool) (i : Nat) (h : Ex → FS) : FS := fun ρ μ => match g ρ μ with
  | .ex x ρ' μ' => if sub x.c = true then (match h x (ρ'.set i (some (exErr x))) μ' with
      | .nx ρ2 μ2 => if Clean ρ' (ρ2.set i none) μ' μ2 then .nx (ρ2.set i none) μ2 else .bad
      | .rt d μ2 => if Clean ρ' [] μ' μ2 ∧ noErr d = true then .rt d μ2 else .bad
      | .bk ρ2 μ2 => if Clean ρ' (ρ2.set i none) μ' μ2 then .bk (ρ2.set i none) μ2 else .bad
      | .ct ρ2 μ2 => if Clean ρ' (ρ2.set i none) μ' μ2 then .ct (ρ2.set i none) μ2 else .bad
      | _ => .bad) else .ex x ρ' μ'
  | o => o
theorem pssEx {X : Cx} {sts : List Stmt} {α : Type} {P : α → Prop} {t : α → TS} (h : ∀ x, P x → PSs X sts (t x)) : PSs X sts (fun D σ H => ∃ x, P x ∧ t x D σ H) := ⟨fun pins s σ H D I ⟨x, p, q⟩ => (h x p).run pins s σ H D I q⟩
section
variable {X : Cx} {W : WX} {x n : Str} {i : Nat} {body suite : List Stmt} {b₀ : Stmt} {np pos pos' : Pos} {g : FS} {h : Ex → FS}
/-- the suite's reading: cls, d the exception's class and dict -/
def tSui (K : PySem.W.Frag) (h : Ex → FS) (a : Addr) (cls : Value) (d : Option Addr) : TS := fun D σ H => ∃ x : Ex, (cls = .ref (He.ga K x.c) ∧ (x.fs = none ↔ d = none)) ∧ tS ⟨K, some (a, d)⟩ W0 (h x) D σ H
open Classical in
theorem sd_try {sub : Str → Bool} {c : Value} (hs : X.stack = X.env :: X.outer) (hf : X.env.frame = some X.env.locals) (hN : X.N.Nodup) (hi : X.N[i]? = some n) (hln : X.env.kindOf n = some .local) (hc : Names X x c) (tk : L2N.Takes X W)
    (hsub : ∀ y ρ μ ρ' μ', g ρ μ = .ex y ρ' μ' → PySem.W.exmOne X.K (.ref (He.ga X.K y.c)) c = some (sub y.c))
    (hb : ∀ (W' : WX) (pn : List (Addr × Obj)) (xe : Value → Shared → Prop), L2N.Takes (X.tr pn xe) W' → PassesOwn (model X.prog X.w) X.A X.env xe → PSs (X.tr pn xe) body (tS (gx X none) W' g))
    (hsu : ∀ (a : Addr) (oe : Obj) (y : Ex) (d : Option Addr) (pn : List (Addr × Obj)), L2N.Zn (.ref (He.ga X.K y.c)) d oe → (∃ vs, oe.data = .fields vs) → (y.fs = none ↔ d = none) → PSs (X.suite a ((a, oe) :: pn)) (b₀ :: suite) (tS (gx X (some (a, d))) W0 (h y))) :
    PS X (.Try body [.ExceptHandler (some (.Name x np)) (some n) (b₀ :: suite) pos'] [] [] pos) (tS (gx X none) W (sTry g sub i h)) := by
  refine psI (L2N.ps_try_as (tb := fun W' => tS (gx X none) W' g) (ts := tSui X.K h) (Wout := W) hs hf hN hi hln hc tk hb fun a oe cls d pn hz hd => pssEx fun y hy => ?_) fun E σ H ⟨M0, L, μ, ρ, gd, q⟩ => ?_
  · obtain ⟨rfl, hy2⟩ := hy
    exact hsu a oe y d pn hz hd hy2
  · refine ⟨M0, L, μ, ρ, gd, ?_⟩
    unfold sTry at q
    cases z : g ρ μ with
    | ex y ρ' μ' =>
      rw [z] at q
      simp only at q
      intro cls od σ' L' H' g' c' rx
      obtain ⟨rfl, rx2⟩ := rx
      refine ⟨sub y.c, hsub y ρ μ ρ' μ' z, fun hb => ?_, fun hb => ?_⟩
      · intro a ha
        rw [if_pos hb] at q
        refine ⟨y, ⟨rfl, ?_⟩, M0, L', μ', ρ'.set i (some (exErr y)), ?_, ?_⟩
        · cases hf : y.fs with
          | none => rw [hf] at rx2; simp only at rx2; exact ⟨fun _ => rx2, fun _ => rfl⟩
          | some p =>
            rw [hf] at rx2
            obtain ⟨d, vs, e, _⟩ := rx2
            exact ⟨(fun w => nomatch w), fun w => by rw [e] at w; cases w⟩
        · have gc := g'.clean
          have g2 : Good ⟨X.K, some (a, od)⟩ M0 L' μ' H' ρ' σ' := g'.to gc.1 gc.2
          refine g2.set (v := .ref a) ?_
          unfold exErr
          cases hf : y.fs with
          | none => rw [hf] at rx2; simp only at rx2; exact ⟨a, od, rfl, rfl, fun _ => ⟨rx2, rfl⟩, (fun w => nomatch w)⟩
          | some p =>
            obtain ⟨fs, l⟩ := p
            rw [hf] at rx2
            obtain ⟨d, vs, e, e2, e3, e4, e5⟩ := rx2
            exact ⟨a, od, rfl, rfl, (fun w => nomatch w), fun _ => ⟨d, vs, e, e2, e3, reps_to _ _ (reps_noErr _ _ e4) e4, e5⟩⟩
        · have gc := g'.clean
          have fin : ∀ {ρ2 : Env} {μ2 : Sto} {σ2 : L2.St} {L2 : List Addr} {H2 : Hp}, Clean ρ' (ρ2.set i none) μ' μ2 → Good ⟨X.K, some (a, od)⟩ M0 L2 μ2 H2 ρ2 σ2 → Good ⟨X.K, none⟩ M0 L2 μ2 H2 (ρ2.set i none) (σ2.set i none) := fun {ρ2 μ2 σ2 L2 H2} cl g2 =>
            (g2.forget (i := i)).to (fun k d e => (cl.2 k d e).elim (gc.1 k d) id) fun k d e => (cl.1 k d e).elim (gc.2 k d) id
          cases y2 : h y (ρ'.set i (some (exErr y))) μ' with
          | nx ρ2 μ2 =>
            rw [y2] at q
            obtain ⟨cl, q2⟩ := AfterS.kp q
            exact fun σ2 L2 H2 g2 c2 => q2 _ L2 H2 (fin cl g2) (gd.trans g' c' c2)
          | bk ρ2 μ2 =>
            rw [y2] at q
            obtain ⟨cl, q2⟩ := AfterS.kp q
            exact fun σ2 L2 H2 g2 c2 => q2 _ L2 H2 (fin cl g2) (gd.trans g' c' c2)
          | ct ρ2 μ2 =>
            rw [y2] at q
            obtain ⟨cl, q2⟩ := AfterS.kp q
            exact fun σ2 L2 H2 g2 c2 => q2 _ L2 H2 (fin cl g2) (gd.trans g' c' c2)
          | rt d μ2 =>
            rw [y2] at q
            obtain ⟨cl, q2⟩ := AfterS.kp q
            exact fun v L2 H2 s2 c2 r2 => q2 v L2 H2 (s2.to fun k d e => (cl.1.2 k d e).elim (gc.1 k d) id) (gd.trans g' c' c2) (rep_to _ _ cl.2 r2)
          | ex _ _ _ => rw [y2] at q; exact q.elim
          | bad => rw [y2] at q; exact q.elim
      · rw [if_neg (by rw [hb]; exact Bool.false_ne_true)] at q
        exact q _ od σ' L' H' g' c' ⟨rfl, rx2⟩
    | nx ρ' μ' => rw [z] at q; exact q
    | bk _ _ => rw [z] at q; exact q
    | ct _ _ => rw [z] at q; exact q
    | rt _ _ => rw [z] at q; exact q
    | bad => rw [z] at q; exact q
end
end DL
end

section
set_option Elab.async false
set_option linter.all false
set_option autoImplicit false
set_option maxRecDepth 100000
set_option maxHeartbeats 1000000
namespace DL
open PySem PySem.Spec PyProof.Rows L2
/-! enumerate, zip over lists -/
/-- the list at a shows ds at every later state -/
def LsAt (K : Gx) (M0 : Addr → Prop) (L : List Addr) (μ : Sto) (H : Hp) (a : Addr) (ds : List D) (kp : Kp) : Prop := ∀ M1 L' μ' H', SR K M1 L' μ' H' → Ch L μ H L' μ' H' → (∀ a, H a ≠ none → M1 a → M0 a) → kpOk kp μ' → ∃ vs, SqL K.K H' a vs ∧ Reps K L' (Mv M1 L' μ') H' ds vs
section
variable {K : Gx} {M0 M1 : Addr → Prop} {L L' : List Addr} {H H' : Hp} {μ μ' : Sto} {a b : Addr}
theorem ls_lst {ds : List D} (s : SR K M0 L μ H) (r : Rep K L (Mv M0 L μ) H (.lst ds) (.ref a)) : LsAt K M0 L μ H a ds none := fun M1 L' μ' H' s' c hm _ => by
  obtain ⟨b, vs, e, _, h1, h2⟩ := r.mono1 s.len c hm
  cases e
  exact ⟨vs, SqL.of h1, h2⟩
theorem ls_frl {ds : List D} (s : SR K M0 L μ H) (r : Rep K L (Mv M0 L μ) H (.frl ds) (.ref a)) : LsAt K M0 L μ H a ds none := fun M1 L' μ' H' s' c hm _ => by
  obtain ⟨b, vs, e, h1, h2⟩ := r.mono1 s.len c hm
  cases e
  exact ⟨vs, h1.l, h2⟩
theorem ls_own {ds : List D} {n : Nat} (ha : L[n]? = some a) : LsAt K M0 L μ H a ds (some (n, .lst ds)) := fun M1 L' μ' H' s' c _ k => by
  obtain ⟨b, e, vs, h1, h2⟩ := s'.cont n _ k
  obtain ⟨t, rfl, _⟩ := c.pre
  rw [List.getElem?_append_left (List.getElem?_eq_some_iff.mp ha).1, ha] at e
  cases e
  exact ⟨vs, SqL.of h1, h2⟩
def enumD (ds : List D) : List D := ds.zipIdx.map fun p => D.tup [.int (p.2 : Nat), p.1]
theorem enum_get {ds : List D} {i : Nat} {d : D} (e : (enumD ds)[i]? = some d) : ∃ x, ds[i]? = some x ∧ d = .tup [.int (i : Nat), x] := by
  unfold enumD at e
  rw [List.getElem?_map, List.getElem?_zipIdx] at e
  cases z : ds[i]? with
  | none => rw [z] at e; cases e
  | some x => rw [z] at e; cases e; exact ⟨x, rfl, by simp⟩
theorem itr_enum {ds : List D} {kp : Kp} (hk : kpOk kp μ) (s : SR K M0 L μ H) (A : LsAt K M0 L μ H a ds kp) : ItR K M0 L μ H (Ite K.K a) (enumD ds) kp := by
  refine ⟨hk, fun M1 L' μ' H' _ s' c hm k i d e => ?_, fun M1 L' μ' H' _ s' c hm k i e => ?_⟩
  · obtain ⟨vs, h1, h2⟩ := A M1 L' μ' H' s' c hm k
    obtain ⟨x, e1, rfl⟩ := enum_get e
    obtain ⟨v, e2, rv⟩ := h2.get e1
    refine ⟨⟨vs, v, h1, e2⟩, fun y H'' z => ?_⟩
    obtain ⟨T, x', rfl, hT, rfl, z2⟩ := z
    have e3 := z2 vs h1
    rw [e2] at e3
    cases e3
    refine ⟨⟨(s'.new hT).1, (s'.new hT).2, fun b hb => upd_ne fun w => hb (by rw [w]; exact hT)⟩, ?_⟩
    exact rep_tup_new s' hT ⟨_, _, rfl, rfl, _, _, rfl, rv, rfl⟩
  · obtain ⟨vs, h1, h2⟩ := A M1 L' μ' H' s' c hm k
    exact ⟨vs, h1, by rw [← h2.length]; simpa [enumD] using e⟩
def zipD (ds es : List D) : List D := List.zipWith (fun x y => D.tup [x, y]) ds es
theorem itr_zip {ds es : List D} {k1 k2 : Kp} (hk : kpOk k1 μ) (hk2 : k2 = none) (s : SR K M0 L μ H) (A : LsAt K M0 L μ H a ds k1) (B : LsAt K M0 L μ H b es k2) : ItR K M0 L μ H (Itz K.K a b) (zipD ds es) k1 := by
  subst hk2
  refine ⟨hk, fun M1 L' μ' H' _ s' c hm k i d e => ?_, fun M1 L' μ' H' _ s' c hm k i e => ?_⟩
  · obtain ⟨vs, h1, h2⟩ := A M1 L' μ' H' s' c hm k
    obtain ⟨us, h3, h4⟩ := B M1 L' μ' H' s' c hm trivial
    unfold zipD at e
    rw [List.getElem?_zipWith] at e
    cases z : ds[i]? with
    | none => rw [z] at e; cases e
    | some x =>
      cases z' : es[i]? with
      | none => rw [z, z'] at e; cases e
      | some y =>
        rw [z, z'] at e
        cases e
        obtain ⟨v, e2, rv⟩ := h2.get z
        obtain ⟨u, e4, ru⟩ := h4.get z'
        refine ⟨⟨vs, us, v, u, h1, h3, e2, e4⟩, fun y H'' q => ?_⟩
        obtain ⟨T, x', y', rfl, hT, rfl, q2, q3⟩ := q
        have e5 := q2 vs h1
        have e6 := q3 us h3
        rw [e2] at e5
        rw [e4] at e6
        cases e5
        cases e6
        refine ⟨⟨(s'.new hT).1, (s'.new hT).2, fun b hb => upd_ne fun w => hb (by rw [w]; exact hT)⟩, ?_⟩
        exact rep_tup_new s' hT ⟨_, _, rfl, rv, _, _, rfl, ru, rfl⟩
  · obtain ⟨vs, h1, h2⟩ := A M1 L' μ' H' s' c hm k
    obtain ⟨us, h3, h4⟩ := B M1 L' μ' H' s' c hm trivial
    refine ⟨vs, us, h1, h3, ?_⟩
    rw [← h2.length, ← h4.length]
    simp [zipD] at e
    omega
/-- a list's items, as a value or one's own -/
def lsOf (μ : Sto) : D → Option (List D × Kp)
  | .own n => (match μ[n]? with
    | some (some (.lst l)) => some (l, some (n, .lst l))
    | _ => none)
  | .lst l => some (l, none)
  | .frl l => some (l, none)
  | _ => none
theorem ls_of {d : D} {v : V} {l : List D} {kp : Kp} (s : SR K M0 L μ H) (r : Rep K L (Mv M0 L μ) H d v) (e : lsOf μ d = some (l, kp)) : ∃ a vs, v = .ref a ∧ SqL K.K H a vs ∧ kpOk kp μ ∧ LsAt K M0 L μ H a l kp := by
  cases d with
  | own n =>
    simp only [lsOf] at e
    split at e
    · rename_i l' z
      cases e
      obtain ⟨a, rfl, ha⟩ := r
      obtain ⟨b, e, vs, h1, h2⟩ := s.cont n _ z
      rw [ha] at e
      cases e
      exact ⟨a, vs, rfl, SqL.of h1, z, ls_own ha⟩
    · cases e
  | lst l =>
    cases e
    obtain ⟨a, vs, rfl, h0, h1, h2⟩ := id r
    exact ⟨a, vs, rfl, SqL.of h1, trivial, ls_lst s r⟩
  | frl l =>
    cases e
    obtain ⟨a, vs, rfl, h1, h2⟩ := id r
    exact ⟨a, vs, rfl, h1.l, trivial, ls_frl s r⟩
  | _ => cases e
end
def fiEnum (fa : Env → Sto → Res (List D)) : FI := fun ρ μ => (fa ρ μ).bind fun ds μ' => match ds with
  | [d] => (match lsOf μ' d with
    | some (l, kp) => .ok (enumD l, kp) μ'
    | none => .bad)
  | _ => .bad
def fiZip (fa : Env → Sto → Res (List D)) : FI := fun ρ μ => (fa ρ μ).bind fun ds μ' => match ds with
  | [d, e] => (match lsOf μ' d, lsOf μ' e with
    | some (l, kp), some (m, none) => .ok (zipD l m, kp) μ'
    | _, _ => .bad)
  | _ => .bad
section
variable {X : Cx} {ea : Option (Addr × Option Addr)} {W : WX} {p pos tpos : Pos} {elts : List Expr} {kk : Nat} {fa : Env → Sto → Res (List D)}
theorem id_enum {e : Expr} (hg : Gl X "enumerate") (hm : X.mg "enumerate" = none) (ha : PA X [e] (tDA (gx X ea) W fa)) (hs : starEach [e] X.env = [(false, eval e X.env)] := by rfl) : PI X (.Tuple elts kk tpos) (.Call (.Name "enumerate" p) [e] [] pos) (tI (gx X ea) W (fiEnum fa)) := piI (pi_enum hg hm ha hs) fun σ H R ⟨M0, L, μ, ρ, gd, q⟩ =>
  ⟨M0, L, μ, ρ, gd, q.bind gd fun ds L1 μ1 H1 g1 c1 q1 vs rv => by
    split at q1
    · rename_i d
      obtain ⟨v, rfl, r⟩ := rv.one
      split at q1
      · rename_i l kp z
        obtain ⟨a, vs, rfl, h1, hk, A⟩ := ls_of g1.sr r z
        exact ⟨a, vs, rfl, h1, After.now q1 g1 _ (itr_enum hk g1.sr A)⟩
      · exact q1.elim
    · exact q1.elim⟩
theorem id_zip {e e2 : Expr} (hg : Gl X "zip") (hm : X.mg "zip" = none) (ha : PA X [e, e2] (tDA (gx X ea) W fa))
    (hs : starEach [e, e2] X.env = (false, eval e X.env) :: starEach [e2] X.env := by rfl) (hpl : (backTo pos (starEach [e2] X.env)).any (·.1) = false := by rfl) : PI X (.Tuple elts kk tpos) (.Call (.Name "zip" p) [e, e2] [] pos) (tI (gx X ea) W (fiZip fa)) := piI (pi_zip hg hm ha hs hpl) fun σ H R ⟨M0, L, μ, ρ, gd, q⟩ =>
  ⟨M0, L, μ, ρ, gd, q.bind gd fun ds L1 μ1 H1 g1 c1 q1 vs rv => by
    split at q1
    · rename_i d d2
      obtain ⟨v, u, rfl, r, r'⟩ := rv.two
      split at q1
      · rename_i l kp m z z'
        obtain ⟨a, vs, rfl, h1, hk, A⟩ := ls_of g1.sr r z
        obtain ⟨b, us, rfl, h3, hk2, B⟩ := ls_of g1.sr r' z'
        exact ⟨a, b, vs, us, rfl, h1, h3, After.now q1 g1 _ (itr_zip hk rfl g1.sr A B)⟩
      · exact q1.elim
    · exact q1.elim⟩
end
end DL
end

section
set_option Elab.async false
set_option linter.all false
set_option autoImplicit false
set_option maxRecDepth 100000
set_option maxHeartbeats 1000000
namespace DL
open PySem PySem.Spec PyProof.Rows L2
/-! sum of truths, in a suite too -/
section
variable {prog : Program} {w : World} {A : Around} {E : Value → Shared → Prop} {s : Shared}
theorem nextEndH {j q x1 : Addr} {k : Nat} {ys : Array Value} {Q : Option Value → Shared → Prop} (hot : HotX.HotAt A x1 s.heap) (nx : x1 ≠ j) (it : s.heap.IsListIter j q k) (li : s.heap.IsList q ys) (none_ : ys[k]? = none)
    (fin : ∀ g : Heap, (∀ b o, b ≠ j → s.heap.get? b = some o → g.get? b = some o) → Q none { s with heap := g }) : wpAny (model prog w) A (pyNext (.ref j)) Q E s := by
  obtain ⟨oi, gi, ci, di⟩ := id it
  obtain ⟨oq, gq, _, nq, dq⟩ := li
  obtain ⟨hh, o1, vs1, h1, d1, c1⟩ := hot
  have ext : ∀ b o, b ≠ j → s.heap.get? b = some o → (s.heap.update j (Obj.mapFields (·.setIfInBounds 0 Value.none))).get? b = some o := fun b o nb e => (Heap.get?_update_other _ _ (fun z : j = b => nb z.symm)).trans e
  unfold pyNext
  refine wpAny_bind (wpAny_attempt (wpAny_callSpecial?_slot (name := Str.ofString "__next__") it.typeIs slot_listiter_next (wpAny_call_entry slot_listiter_next it.typeIs entry_listiter_next ?goal (args_listiter_next _))))
  case goal =>
  show wpAny _ _ (field (.ref j) 0 >>= _) _ _ s
  refine wpAny_bind (wpAny_field gi di (x := .ref q) rfl ?_)
  show wpAny _ _ (if (Value.ref q == Value.none) = true then _ else _) _ _ s
  rw [if_neg (show ¬ ((Value.ref q == Value.none) = true) from Bool.false_ne_true)]
  show wpAny _ _ (field (.ref j) 1 >>= _) _ _ s
  refine wpAny_bind (wpAny_field gi di (x := .int k 0) rfl ?_)
  show wpAny _ _ (seqItems? (.ref q) >>= _) _ _ s
  refine wpAny_bind (wpAny_seqItems gq dq ?_)
  simp only [Int.toNat_natCast, none_]
  refine wpAny_bind (wpAny_rule (wpAny_bind (wpAny_setField gi di (by simp) ?_)))
  show wpAny _ _ (newExc (.type "StopIteration") [] >>= _) _ _ _
  refine wpAny_bind ?_
  simp only [newExc, newTuple]
  refine wpAny_bind (wpAny_newObj_type ?_ (by size_fits))
  refine wpAny_bind (m := firstArgMember _ _) (wpAny_of_eq (a := Value.none) (by first | rfl | (simp only [firstArgMember]; rfl)) ?_)
  refine wpAny_newObj_type ?_ (by size_fits)
  refine HotX.raiseNew_hot ⟨hh, o1, vs1, Heap.get?_push_of_some _ (Heap.get?_push_of_some _ (ext _ _ nx h1)), d1, c1⟩ (Nat.ne_of_lt (Heap.lt_size (Heap.get?_push_of_some _ (ext _ _ nx h1)))) (Heap.get?_push_size _ rfl) rfl (by first | (simp; done) | (simp; omega) | (simp only [Array.size_append]; simp; omega)) ?_
  refine wpAny_bind (wpAny_isInstance (T := "StopIteration") (b := true) ⟨_, Heap.get?_update_self _ (Heap.get?_push_size _ rfl) rfl, rfl⟩ isSubtype_stop ?_)
  refine wpAny_pure (fin _ fun b o nb e => ?_)
  rw [Heap.get?_update_other _ _ (Nat.ne_of_gt (Heap.lt_size (Heap.get?_push_of_some _ (ext b o nb e))))]
  exact Heap.get?_push_of_some _ (Heap.get?_push_of_some _ (ext b o nb e))
theorem walksH {x1 j q : Addr} (hh : A.handled = some (.ref x1)) (n1 : x1 ≠ j) (n2 : q ≠ j) (o1 : Obj) (vs1 : Array Value) (d1 : o1.data = .fields vs1) (c1 : vs1[2]? = some .none) (ys : Array Value) :
    Walks prog w A j [j, q, x1] [j] ys.size (fun i v => ys[i]? = some v) (fun i h => h.IsListIter j q i ∧ h.IsList q ys ∧ h.get? x1 = some o1) where
  sub := fun b z => by
    simp at z
    simp [z]
  frame := fun _ _ _ st k => ⟨st.1.at fun o e => k j (by simp) o e, st.2.1.at fun o e => k q (by simp) o e, k x1 (by simp) o1 st.2.2⟩
  item := fun i s Q E hi st fin => by
    refine wpAny_pyNext_list_item st.1 st.2.1 (x := ys[i]) (by simp [hi]) fun g i2 k2 => ?_
    exact fin _ g s.toks (by simp [hi]) ⟨i2, st.2.1.extBut k2.extBut n2, k2.extBut _ _ n1 st.2.2⟩ fun b o nb e => k2.extBut b o (fun z => nb (by simp [z])) e
  done := fun s Q E st fin => nextEndH ⟨hh, o1, vs1, st.2.2, d1, c1⟩ n1 st.1 st.2.1 (by simp) fun g k2 => fin g s.toks fun b o nb e => k2 b o (fun z => nb (by simp [z])) e
  self := fun _ _ _ _ st fin => wpAny_pyIter_listiter st.1 fin
def cnt (bs : List Bool) : Int := (bs.countP id : Nat)
theorem preSum_bls (bs : List Bool) : preSum (fun i => if bs[i]? = some true then 1 else 0) bs.length = cnt bs := by
  have key : ∀ (k : Nat), k ≤ bs.length → preSum (fun i => if bs[i]? = some true then 1 else 0) k = cnt (bs.take k) := by
    intro k
    induction k with
    | zero => intro _; simp [preSum, cnt]
    | succ k ih =>
      intro hk
      rw [preSum, ih (by omega), List.take_succ]
      have hlt : k < bs.length := hk
      rw [List.getElem?_eq_getElem hlt]
      cases z : bs[k] <;> simp [cnt, List.countP_append]
  rw [key _ (Nat.le_refl _), List.take_length]
end
def rSumB (K : PySem.W.Frag) : List V → Hp → VK → Prop := fun vs H Q => ∃ (a : Addr) (bs : List Bool), vs = [V.ref a] ∧ SqL K H a (bs.map V.bl) ∧ Q (.int (cnt bs)) H
theorem numOf_bls {bs : List Bool} {i : Nat} {v : Value} (h : (bs.map Value.bool).toArray[i]? = some v) : NumOf (if bs[i]? = some true then 1 else 0) v := by
  rw [List.getElem?_toArray, List.getElem?_map] at h
  cases z : bs[i]? with
  | none => rw [z] at h; cases h
  | some b =>
    rw [z] at h
    cases h
    exact .inr ⟨b, rfl, by cases b <;> simp⟩
section
variable {X : Cx}
theorem movedInv {pins : List (Addr × Obj)} {σ : L2.St} {H : Hp} {s s' : Shared} {o : Obj} (I : Inv X pins σ H s) (hm : Moved [s.heap.objs.size] (fun a b => b = a) { s with heap := s.heap.push o } s') : Inv X pins σ H s' := by
  obtain ⟨hp, g, d, t, os⟩ := s'
  obtain ⟨m1, rfl, rfl, rfl, m5⟩ := hm
  exact I.kept (h' := hp) (t' := t) fun b ob e => m1 b ob (fun z => by
    rw [List.mem_singleton] at z
    have e' := Heap.lt_size e
    rw [z] at e'
    exact Nat.lt_irrefl _ e') (Heap.get?_push_of_some _ e)
theorem call_sumB (hc : X.calm = true) : CallR X (.builtin "sum") (rSumB X.K) := by
  intro pins s σ H vs us Q I r h
  obtain ⟨a, bs, rfl, hs, q⟩ := h
  obtain ⟨its, rv, p, _⟩ := I.list hs
  rw [Vals.ref1 r]
  have e := Vals.bls rv
  subst e
  refine PySem.call_sum_walkAnyB (wpAny_pyIter_list p.isList ?_)
  have la : a < s.heap.objs.size := p.lt
  refine ⟨_, _, _, _, _, _, _, fun i => if bs[i]? = some true then 1 else 0, rfl, (Walks.list (show X.A.in1.handled = none from I.ok.hd hc) s.heap.objs.size a (Nat.ne_of_lt la) _).toS, ⟨⟨_, Heap.get?_push_size _ rfl, rfl, rfl⟩, p.isList.push _⟩, fun b hb => ?_, fun i v hv => numOf_bls hv, fun s' t' hm => ?_⟩
  · rw [List.mem_cons, List.mem_singleton] at hb
    show b < (s.heap.push _).objs.size
    rw [Heap.size_push]
    rcases hb with rfl | rfl
    · exact Nat.lt_succ_self _
    · exact Nat.lt_succ_of_lt la
  · refine ⟨.int (cnt bs), H, movedInv I hm, ⟨t', ?_⟩, q⟩
    rw [← preSum_bls bs]
    simp
theorem call_sumBH {a : Addr} {oe : Obj} {pn : List (Addr × Obj)} (hz : PXN.CtxN oe) (hf : ∃ vs, oe.data = .fields vs) : CallR (X.suite a ((a, oe) :: pn)) (.builtin "sum") (rSumB X.K) := by
  intro pins s σ H vs us Q I r h
  obtain ⟨l, bs, rfl, hs, q⟩ := h
  obtain ⟨its, rv, p, _⟩ := I.list hs
  rw [Vals.ref1 r]
  have e := Vals.bls rv
  subst e
  obtain ⟨vs1, d1⟩ := hf
  have g1 := (I.pin (a, oe) (List.mem_append.mpr (.inl List.mem_cons_self))).1
  have lx : a < s.heap.objs.size := Heap.lt_size g1
  refine PySem.call_sum_walkAnyB (wpAny_pyIter_list p.isList ?_)
  have la : l < s.heap.objs.size := p.lt
  refine ⟨_, _, _, _, _, _, _, fun i => if bs[i]? = some true then 1 else 0, rfl, (walksH (x1 := a) (show (X.A.mark (some (.ref a))).in1.handled = _ from rfl) (Nat.ne_of_lt lx) (Nat.ne_of_lt la) oe vs1 d1 (hz _ d1) _).toS, ⟨⟨_, Heap.get?_push_size _ rfl, rfl, rfl⟩, p.isList.push _, Heap.get?_push_of_some _ g1⟩, fun b hb => ?_, fun i v hv => numOf_bls hv, fun s' t' hm => ?_⟩
  · rw [List.mem_cons, List.mem_cons, List.mem_singleton] at hb
    show b < (s.heap.push _).objs.size
    rw [Heap.size_push]
    rcases hb with rfl | rfl | rfl
    · exact Nat.lt_succ_self _
    · exact Nat.lt_succ_of_lt la
    · exact Nat.lt_succ_of_lt lx
  · refine ⟨.int (cnt bs), H, movedInv I hm, ⟨t', ?_⟩, q⟩
    rw [← preSum_bls bs]
    simp
end
def oSumB : List D → Sto → Res D
  | [d], μ => match lseq μ d with
    | some l => match blsD l with
      | some bs => .ok (.int (cnt bs)) μ
      | none => .bad
    | none => .bad
  | _, _ => .bad
theorem cg_sumB {K : Gx} : CaG K (rSumB K.K) oSumB := by
  intro W M0 L μ H ρ σ ds vs Q g rs q
  unfold oSumB at q
  split at q
  · obtain ⟨v, rfl, r⟩ := rs.one
    split at q
    · rename_i l z
      split at q
      · rename_i bs y
        obtain ⟨a, us, rfl, sq, r'⟩ := lseq_of g.sr r z
        rw [bls_rep r' y] at sq
        exact ⟨a, bs, rfl, sq, After.val q g rfl⟩
      · exact q.elim
    · exact q.elim
  · exact q.elim
/-! isinstance of the exception that a suite holds -/
/-- one class -/
def rIsD (K : PySem.W.Frag) (d : Option Addr) (D a : Addr) : List V → Hp → VK → Prop := fun xs H Q => d = none ∧ ExcC K D ∧ rIsE K D a xs H Q
theorem call_isD {X : Cx} {a D : Addr} {d : Option Addr} {oe : Obj} {pn : List (Addr × Obj)} (hz : L2N.Zn (.ref D) d oe) (hf : ∃ vs, oe.data = .fields vs) : CallR (X.suite a ((a, oe) :: pn)) (.builtin "isinstance") (rIsD X.K d D a) := by
  intro pins s σ H xs us Q I r h
  obtain ⟨rfl, C, h⟩ := h
  exact call_isE C hz.zc hf pins s σ H xs us Q I r h
/-- a tuple of classes -/
def rIsDT (K : PySem.W.Frag) (d : Option Addr) (D a : Addr) : List V → Hp → VK → Prop := fun xs H Q => d = none ∧ ExcC K D ∧ ∃ (tp : Addr) (cs : List V) (us : List Value) (b : Bool), xs = [.ref a, .ref tp] ∧ H tp = some (.tup cs) ∧ Paired ClsV cs us ∧ PySem.W.kitAny K (.ref D) us = some b ∧ Q (.bl b) H
theorem call_isDT {X : Cx} {a D : Addr} {d : Option Addr} {oe : Obj} {pn : List (Addr × Obj)} (hz : L2N.Zn (.ref D) d oe) (hf : ∃ vs, oe.data = .fields vs) : CallR (X.suite a ((a, oe) :: pn)) (.builtin "isinstance") (rIsDT X.K d D a) := by
  intro pins s σ H xs us Q I r h
  obtain ⟨rfl, C, tp, cs, ws, b, rfl, hT, k, e, q⟩ := h
  obtain ⟨u1, u2, rfl, r1, r2⟩ := vals2 r
  cases (show u2 = Value.ref tp from r2)
  cases (show u1 = Value.ref a from r1)
  obtain ⟨_, its, rv, o, h1, h2, n, h3⟩ := (show ObjOk X.prog X.w H s.heap tp (.tup cs) from I.hok tp _ hT)
  have e3 := ClsV.all k rv
  subst e3
  obtain ⟨got, _⟩ := I.pin (a, oe) (List.mem_append.mpr (.inl List.mem_cons_self))
  obtain ⟨vs, hv⟩ := hf
  have J : PySem.W.InstAt s.heap a oe D none := by
    obtain ⟨z1, z2, _⟩ := hz
    obtain ⟨oc, od, oda, osl⟩ := oe
    dsimp only at z1 z2 hv
    subst z1 z2 hv
    exact ⟨got, rfl, rfl, trivial⟩
  obtain ⟨oc, od, oda, osl⟩ := o
  dsimp only at h2 h3
  subst h2 h3
  exact PySem.W.kia_tup (PySem.W.handS_kitx_exc C.hg C.hk C.hs C.hd C.ha C.hn C.ht C.hm) I.kIn J h1 e (fun z => nomatch z) fun tk => ⟨.bl b, H, I.tok tk, rfl, q⟩
def oIsE (tb : Kinds) (c : Str) : List D → Sto → Res D
  | [.err _ false _ _, t], μ => if isC t then (match tb (.cls c) t with
    | some b => .ok (.bl b) μ
    | none => .bad) else .bad
  | _, _ => .bad
def KindsE (K : PySem.W.Frag) (tb : Kinds) : Prop := ∀ c t b, tb (.cls c) t = some b → ExcC K (He.ga K c) ∧ PySem.W.kitOne K (valC K (.cls c)) (valC K t) = some b
theorem clsV1 {K : Gx} {L : List Addr} {M : Addr → Prop} {H : Hp} {t : D} {v : V} (r : Rep K L M H t v) (h : isC t = true) : ClsV v (valC K.K t) := by
  cases t with
  | ty n => rw [show v = V.ty n from r]; exact .ty n
  | cls n => rw [show v = V.ref _ from r]; exact .own _
  | _ => exact nomatch h
theorem cg_isE {tb : Kinds} {K : PySem.W.Frag} {a : Addr} {d : Option Addr} {c : Str} (hk : KindsE K tb) : CaG ⟨K, some (a, d)⟩ (rIsD K d (He.ga K c) a) (oIsE tb c) := by
  intro W M0 L μ H ρ σ ds vs Q g rs q
  unfold oIsE at q
  split at q
  · rename_i c1 fs1 l1 t
    obtain ⟨v, u, rfl, r1, r2⟩ := rs.two
    split at q
    · rename_i ht
      split at q
      · rename_i b hb
        obtain ⟨a', od, e1, rfl, e3, _⟩ := r1
        cases e1
        obtain ⟨x1, x2⟩ := hk c t b hb
        have cv := clsV1 r2 ht
        exact ⟨(e3 rfl).1, x1, u, valC K t, b, rfl, fun w rw' => cv.eq rw', x2, After.val q g rfl⟩
      · exact q.elim
    · exact q.elim
  · exact q.elim
def anyE (tb : Kinds) (c : Str) : List D → Option Bool
  | [] => some false
  | t :: ts => match tb (.cls c) t with
    | some true => some true
    | some false => anyE tb c ts
    | none => none
theorem anyE_ok {K : PySem.W.Frag} {tb : Kinds} (hk : KindsE K tb) {c : Str} : ∀ {ts : List D} {b : Bool}, anyE tb c ts = some b → PySem.W.kitAny K (valC K (.cls c)) (ts.map (valC K)) = some b
  | [], b, h => by cases h; rfl
  | t :: ts, b, h => by
    unfold anyE at h
    cases z : tb (.cls c) t with
    | none => rw [z] at h; cases h
    | some r =>
      rw [z] at h
      cases r with
      | true => cases h; exact kitAny_cons (hk _ _ _ z).2 (fun z => nomatch z) fun _ => rfl
      | false => exact kitAny_cons (hk _ _ _ z).2 (fun _ => anyE_ok hk h) fun z => nomatch z
def knows1 (tb : Kinds) (c : Str) : List D → Bool
  | [] => false
  | t :: _ => (tb (.cls c) t).isSome
/-- isinstance(e, (C, ..)) -/
def eIsET (tb : Kinds) (c : Str) (f : FD) (fa : Env → Sto → Res (List D)) : FD := fun ρ μ => (f ρ μ).bind fun d μ1 => (fa ρ μ1).bind fun ts μ2 => match d with
  | .err _ false _ _ => if ts.all isC && decide (ts.length ≤ 1000) && knows1 tb c ts then (match anyE tb c ts with
    | some b => .ok (.bl b) μ2
    | none => .bad) else .bad
  | _ => .bad
theorem pd_isET {X : Cx} {W : WX} {x : Expr} {es : List Expr} {x1 : Nat} {p pos pos' : Pos} {f : FD} {fa : Env → Sto → Res (List D)} {tb : Kinds} {c : Str} {a : Addr} {d : Option Addr} {oe : Obj} {pn : List (Addr × Obj)} (hz : L2N.Zn (.ref (He.ga X.K c)) d oe) (hf : ∃ vs, oe.data = .fields vs) (hk : KindsE X.K tb) (hg : Gl (X.suite a ((a, oe) :: pn)) "isinstance") (hm : X.mg "isinstance" = none)
    (ha : PE (X.suite a ((a, oe) :: pn)) x (tD (gx X (some (a, d))) W f)) (hes : PA (X.suite a ((a, oe) :: pn)) es (tDA (gx X (some (a, d))) W fa))
    (he1 : starEach [x, .Tuple es x1 pos'] X.env = (false, eval x X.env) :: starEach [.Tuple es x1 pos'] X.env := by rfl) (he2 : starEach [.Tuple es x1 pos'] X.env = (false, eval (.Tuple es x1 pos') X.env) :: starEach [] X.env := by rfl) (hpl : (backTo pos (starEach [.Tuple es x1 pos'] X.env)).any (·.1) = false := by rfl) :
    PE (X.suite a ((a, oe) :: pn)) (.Call (.Name "isinstance" p) [x, .Tuple es x1 pos'] [] pos) (tD (gx X (some (a, d))) W (eIsET tb c f fa)) := peI (pe_callB (call_isDT hz hf) hg hm (by decide +kernel) (pa_cons ha (pa_cons (pe_tup hes) pa_nil he2) he1) (by decide) (by decide) he1 hpl) fun σ H Q ⟨M0, L, μ, ρ, gd, q⟩ =>
  ⟨M0, L, μ, ρ, gd, q.bind gd fun dd L1 μ1 H1 g1 c1 q1 v rv => ⟨M0, L1, μ1, ρ, g1, q1.bind g1 fun ts L2 μ2 H2 g2 c2 q2 vs rvs => by
    cases dd with
    | err c' o fs l =>
      cases o with
      | true => exact q2.elim
      | false =>
        simp only at q2
        split at q2
        · rename_i hq
          have hz1 := Bool.and_eq_true_iff.mp hq
          have hz2 := Bool.and_eq_true_iff.mp hz1.1
          have hl : ts.length ≤ 1000 := of_decide_eq_true hz2.2
          obtain ⟨a', od, e1, rfl, e3, _⟩ := rv
          cases e1
          split at q2
          · rename_i r hr
            refine ⟨line_le (by rw [← rvs.length]; omega), fun p hp => ⟨(e3 rfl).1, ?_, p, vs, ts.map (valC X.K), r, rfl, upd_same, clsV_of rvs hz2.1, anyE_ok hk hr, ?_⟩⟩
            · cases ts with
              | nil => exact nomatch hz1.2
              | cons t ts =>
                obtain ⟨b, hb⟩ := Option.isSome_iff_exists.mp hz1.2
                exact (hk _ _ _ hb).1
            · have S := g2.sr.new (o := .tup vs) hp
              exact q2.to g2 S (.bl r) rfl
          · exact q2.elim
        · exact q2.elim
    | _ => exact q2.elim⟩⟩
/-! list.index over flat items -/
def ixF (d : D) : List D → Option Nat
  | [] => none
  | y :: l => if eqF y d then some 0 else (ixF d l).map (· + 1)
def oIndex : D → List D → Sto → Res D
  | e, [d], μ => match lseq μ e with
    | some l => if flatD d && l.all flatD then (match ixF d l with
      | some j => .ok (.int (j : Nat)) μ
      | none => .bad) else .bad
    | none => .bad
  | _, _, _ => .bad
theorem ixF_of {K : Gx} {L : List Addr} {M : Addr → Prop} {H : Hp} {d : D} {v : V} (r : Rep K L M H d v) (f : flatD d = true) : ∀ {l : List D} {vs : List V} {j : Nat}, Reps K L M H l vs → l.all flatD = true → ixF d l = some j → ∃ z, vs[j]? = some z ∧ eqV z v = true ∧ ∀ (m : Nat) (z' : V), m < j → vs[m]? = some z' → eqV z' v = false
  | [], _, _, _, _, e => by cases e
  | y :: l, vs, j, h, f', e => by
    obtain ⟨u, us, rfl, h1, h2⟩ := h
    rw [List.all_cons, Bool.and_eq_true_iff] at f'
    unfold ixF at e
    by_cases z : eqF y d = true
    · rw [if_pos z] at e
      cases e
      exact ⟨u, rfl, by rw [eqF_of h1 r f'.1 f]; exact z, fun m z' hm => absurd hm (Nat.not_lt_zero _)⟩
    · rw [if_neg z] at e
      cases q : ixF d l with
      | none => rw [q] at e; cases e
      | some k =>
        rw [q] at e
        cases e
        obtain ⟨w, w1, w2, w3⟩ := ixF_of r f h2 f'.2 q
        refine ⟨w, by simpa using w1, w2, fun m z' hm hz => ?_⟩
        cases m with
        | zero =>
          cases hz
          rw [eqF_of h1 r f'.1 f]
          exact Bool.eq_false_iff.mpr z
        | succ m => exact w3 m z' (Nat.lt_of_succ_lt_succ (show m + 1 < k + 1 from hm)) (by simpa using hz)
theorem mg_index {K : Gx} : MtG K (rIndex K.K) oIndex := by
  intro W M0 L μ H ρ σ e ds v vs Q g rd rs q
  unfold oIndex at q
  split at q
  · rename_i d
    obtain ⟨u, rfl, r⟩ := rs.one
    split at q
    · rename_i l z
      split at q
      · rename_i hf
        have y' := Bool.and_eq_true_iff.mp hf
        split at q
        · rename_i j hj
          obtain ⟨a, us, rfl, sq, r'⟩ := lseq_of g.sr rd z
          obtain ⟨w, w1, w2, w3⟩ := ixF_of r y'.1 r' y'.2 hj
          exact ⟨a, us, u, j, w, rfl, rfl, sq, flat_of r y'.1, (inF_of r y'.1 r' y'.2).1, w1, w2, w3, After.val q g rfl⟩
        · exact q.elim
      · exact q.elim
    · exact q.elim
  · exact q.elim
end DL
end

section
set_option Elab.async false
set_option linter.all false
set_option autoImplicit false
set_option maxRecDepth 100000
set_option maxHeartbeats 1000000
namespace DL
open PySem PySem.Spec PyProof.Rows L2
/-! dict displays: {}, {(k, ..): v} -/
section
variable {X : Cx} {ea : Option (Addr × Option Addr)} {W : WX} {pos : Pos}
theorem pd_dnewK : PE X (.Dict [] [] pos) (tF (gx X ea) W (eC (.dK [] []))) := peI pe_dnewK fun σ H Q ⟨M0, L, μ, ρ, gd, q⟩ p hp =>
  q p L (upd H p (.dK [])) (gd.lock hp) (gd.sr.new hp).2 hp ⟨[], upd_same, rfl, rfl⟩
def tDisp1 (t : TA) (tv : TE) : TE := fun σ H Q => ∀ p, H p = none → t σ (upd H p (.dT [])) fun xs H1 => xs.length ≤ sizeLine ∧ ∀ b, H1 b = none → tv σ (upd H1 b (.tup xs)) fun y H2 => H2 p = some (.dT []) ∧ ∃ ks : List Key, H2 b = some (.tup (ks.map kV)) ∧ Q (.ref p) (upd H2 p (.dT [(ks, y)]))
theorem pe_disp1 {es : List Expr} {x1 : Nat} {p2 : Pos} {v : Expr} {t : TA} {tv : TE} (hu : X.A.units + 1 < cLine) (ht : PA X es t) (hv : PE X v tv) : PE X (.Dict [some (.Tuple es x1 p2)] [v] pos) (tDisp1 t tv) := by
  refine ⟨fun pins s σ H Q I q => ?_⟩
  have hn := I.hok.fresh (Nat.le_refl s.heap.objs.size)
  have I1 := I.laid (a := s.heap.objs.size) (o := .dT []) (h' := s.heap.push { cls := .type "dict", data := .dict #[] }) (t' := s.toks) (fun _ _ q => Heap.get?_push_of_some _ q) (Nat.le_refl _) (dt_empty s.heap I.big)
  have hk := (pe_tup (x1 := x1) (pos := p2) ht).run pins _ σ _ (fun x H1 => ∃ b xs, x = V.ref b ∧ H1 b = some (.tup xs) ∧ tv σ H1 fun y H2 => H2 s.heap.objs.size = some (.dT []) ∧ ∃ ks : List Key, H2 b = some (.tup (ks.map kV)) ∧ Q (.ref s.heap.objs.size) (upd H2 s.heap.objs.size (.dT [(ks, y)]))) I1 (by
    have z := q _ hn
    unfold tTup
    revert z
    generalize hG : (fun (xs : List V) (H1 : Hp) => xs.length ≤ sizeLine ∧ ∀ b, H1 b = none → tv σ (upd H1 b (.tup xs)) fun y H2 => H2 s.heap.objs.size = some (.dT []) ∧ ∃ ks : List Key, H2 b = some (.tup (ks.map kV)) ∧ Q (.ref s.heap.objs.size) (upd H2 s.heap.objs.size (.dT [(ks, y)]))) = G
    intro z
    have eG : (fun (xs : List V) (H1 : Hp) => xs.length ≤ sizeLine ∧ ∀ p, H1 p = none → ∃ b ys, V.ref p = V.ref b ∧ upd H1 p (HO.tup xs) b = some (.tup ys) ∧ tv σ (upd H1 p (HO.tup xs)) fun y H2 => H2 s.heap.objs.size = some (.dT []) ∧ ∃ ks : List Key, H2 b = some (.tup (ks.map kV)) ∧ Q (.ref s.heap.objs.size) (upd H2 s.heap.objs.size (.dT [(ks, y)]))) = G := by
      rw [← hG]
      funext xs H1
      refine propext ⟨fun ⟨h1, h2⟩ => ⟨h1, fun b hb => ?_⟩, fun ⟨h1, h2⟩ => ⟨h1, fun b hb => ⟨b, xs, rfl, upd_same, h2 b hb⟩⟩⟩
      obtain ⟨b', ys, e, _, h3⟩ := h2 b hb
      cases e
      exact h3
    rw [eG]
    exact z)
  refine wpAny_Dict_any (by rfl) (by rfl) (by simp) (by simp) (pairTrees_cons_walk (thn hk fun u s1 ⟨x, H1, I2, rx, b, xs, e1, e2, q1⟩ => ?_))
  subst e1
  cases (show u = Value.ref b from rx)
  refine thn (hv.run pins s1 σ H1 _ I2 q1) fun w2 s2 ⟨y, H2, I3, ry, e3, ks, e4, q2⟩ => pairTrees_nil_walk ?_
  obtain ⟨z, hd, xs0, r0, dd⟩ := dt_of I3.hok e3
  cases r0
  have hkey := key_of I3.hok e4
  unfold storeAll
  rw [List.forIn_cons]
  refine wpAny_bind (wpAny_bind (wpAny_dictSet_heap (hsz := by rw [sizeLine_eq]; decide) (show X.A.units < cLine by omega) hkey dd fun h' dd' hs => wpAny_pure ?_))
  show wpAny _ _ (forIn ([] : List (Value × Value)) PUnit.unit _) _ _ _
  rw [List.forIn_nil]
  refine wpAny_pure ⟨.ref s.heap.objs.size, _, ?_, rfl, q2⟩
  obtain ⟨qq, es', ep, hq, h2, h3, h4, _, h5⟩ := dd'
  refine d_write I3 (by rw [e3]; exact True.intro) hs ⟨qq, hq⟩ ⟨by rw [sizeLine_eq]; simp, hd, [(ks, b, w2)], .cons ⟨rfl, ?_, ry⟩ .nil, qq, es', ep, hq, h2, h3, h4, h5⟩
  rw [upd_ne (ne_of e4 e3 (fun z => nomatch z))]
  exact e4
def keyD : D → Option Key
  | .int i => some (.inl i)
  | .str x => some (.inr x)
  | _ => none
def keysD : List D → Option (List Key)
  | [] => some []
  | d :: ds => match keyD d, keysD ds with
    | some k, some ks => some (k :: ks)
    | _, _ => none
theorem keyD_rep {K : Gx} {L : List Addr} {M : Addr → Prop} {H : Hp} {d : D} {v : V} {k : Key} (r : Rep K L M H d v) (e : keyD d = some k) : v = kV k := by
  cases d with
  | int i => cases e; exact r
  | str x => cases e; exact r
  | _ => cases e
theorem keysD_rep {K : Gx} {L : List Addr} {M : Addr → Prop} {H : Hp} : ∀ {l : List D} {vs : List V} {ks : List Key}, Reps K L M H l vs → keysD l = some ks → vs = ks.map kV
  | [], _, _, h, e => by cases h; cases e; rfl
  | d :: l, vs, ks, h, e => by
    obtain ⟨v, r, rfl, h1, h2⟩ := h
    unfold keysD at e
    split at e
    · rename_i k ks' z z'
      cases e
      rw [keyD_rep h1 z, keysD_rep h2 z', List.map_cons]
    · cases e
def eDisp1 (fa : Env → Sto → Res (List D)) (fv : FD) : FD := fun ρ μ => match fa ρ μ with
  | .ok ds μ1 => (match fv ρ μ1 with
    | .ok d μ2 => (match keysD ds with
      | some k => if ds.length ≤ 1000 then .ok (.dT [k] [d]) μ2 else .bad
      | none => .bad)
    | _ => .bad)
  | _ => .bad
theorem pd_disp1 {es : List Expr} {x1 : Nat} {p2 : Pos} {v : Expr} {fa : Env → Sto → Res (List D)} {fv : FD} (hu : X.A.units + 1 < cLine) (ht : PA X es (tDA (gx X ea) W fa)) (hv : PE X v (tD (gx X ea) W fv)) :
    PE X (.Dict [some (.Tuple es x1 p2)] [v] pos) (tF (gx X ea) W (eDisp1 fa fv)) := peI (pe_disp1 hu ht hv) fun σ H Q ⟨M0, L, μ, ρ, gd, q⟩ p hp => by
  have g0 := gd.lock (o := .dT []) hp
  have c0 := (gd.sr.new (o := .dT []) hp).2
  refine ⟨_, L, μ, ρ, g0, ?_⟩
  unfold eDisp1 at q
  cases r : fa ρ μ with
  | ex x μ1 => rw [r] at q; exact q.elim
  | bad => rw [r] at q; exact q.elim
  | ok ds μ1 =>
    rw [r] at q
    simp only at q
    intro L1 H1 g1 c1 xs rx
    cases r2 : fv ρ μ1 with
    | ex x μ2 => rw [r2] at q; exact q.elim
    | bad => rw [r2] at q; exact q.elim
    | ok d μ2 =>
      rw [r2] at q
      simp only at q
      cases r3 : keysD ds with
      | none => rw [r3] at q; exact q.elim
      | some k =>
        rw [r3] at q
        simp only at q
        by_cases hl : ds.length ≤ 1000
        · rw [if_pos hl] at q
          simp only at q
          refine ⟨by rw [← rx.length]; exact Nat.le_trans hl (by decide), fun b hb => ?_⟩
          have S := g1.sr.new (o := .tup xs) hb
          refine ⟨_, L1, μ1, ρ, g1.step S.1 S.2, ?_⟩
          rw [r2]
          intro L2 H2 g2 c2 y ry
          have p1 : upd H p (HO.dT []) p = some (.dT []) := upd_same
          have nl0 := not_live_of_lock g0.sr
          have nl1 := not_live_of_lock g1.sr
          have p2' : H1 p = some (.dT []) := c1.frame p _ nl0.1 p1
          have p3 : upd H1 b (.tup xs) p = some (.dT []) := S.2.frame p _ nl1.1 p2'
          have p4 : H2 p = some (.dT []) := c2.frame p _ nl1.1 p3
          have ks := keysD_rep rx r3
          subst ks
          refine ⟨p4, k, c2.tups _ _ upd_same, ?_⟩
          have cc : Ch L μ H L2 μ2 H2 := gd.trans (Good.unlock g1) (gd.trans (Good.unlock g0) c0 c1) (Good.trans (Good.unlock g1) (Good.unlock (g1.step S.1 S.2)) S.2 c2)
          refine q p L2 _ (g2.relock p4 (fun _ z => nomatch z) (fun _ _ z => nomatch z)) ?_ hp ⟨[y], upd_same, ?_, rfl⟩
          · refine ⟨cc.pre, fun a o nl e => ?_, fun a vs e => ?_, fun a o u e => ?_, cc.dead⟩
            · rw [upd_ne (fun z => by rw [z, hp] at e; cases e)]
              exact cc.frame a o nl e
            · rw [upd_ne (fun z => by rw [z, hp] at e; cases e)]
              exact cc.tups a vs e
            · rw [upd_ne (fun z => by rw [z, hp] at e; cases e)]
              exact cc.frzs a o u e
          · exact relocks p4 (fun _ z => nomatch z) (fun _ _ z => nomatch z) (Reps.cons ry Reps.nil)
        · rw [if_neg hl] at q
          exact q.elim
end
end DL
end

section
set_option Elab.async false
set_option linter.all false
set_option autoImplicit false
set_option maxRecDepth 100000
set_option maxHeartbeats 1000000
namespace DL
open PySem PySem.Spec PyProof.Rows L2
/-! the text of plain data -/
def keyP : Key → PyData
  | .inl i => .int i
  | .inr x => .str x
mutual
def pyD : D → Option PyData
  | .non => some .none
  | .bl b => some (.bool b)
  | .int i => some (.int i)
  | .str x => some (.str x)
  | .tup l => (pyDs l).map .tuple
  | .lst l => (pyDs l).map .list
  | .frl l => (pyDs l).map .list
  | .dK ks l => (pyDs l).map fun vs => .dict ((ks.map keyP).zip vs)
  | .dT ks l => (pyDs l).map fun vs => .dict ((ks.map fun k => .tuple (k.map keyP)).zip vs)
  | _ => none
def pyDs : List D → Option (List PyData)
  | [] => some []
  | d :: ds => match pyD d, pyDs ds with
    | some x, some y => some (x :: y)
    | _, _ => none
end
/-- the value u shows p in the heap h, in print too -/
structure RD (P : Program) (w : World) (h : Heap) (u : Value) (p : PyData) : Prop where
  rd : ∃ as, Reads h u p as
  kr : p.showable = true → p.shown.length ≤ sizeLine → ∃ bs, ReadAtMost h p.depth bs ∧ ReprK P w bs h p.depth u p.shown
  top : ∀ a, u = .ref a → p.showable = true → p.shown.length ≤ sizeLine → ∃ T idr, ShowsBy P w h a p T idr
structure RDs (P : Program) (w : World) (h : Heap) (us : List Value) (ps : List PyData) : Prop where
  rd : ∃ as, ReadsAll h us ps as
  kr : PyData.showableAll ps = true → (∀ t ∈ PyData.shownAll ps, t.length ≤ sizeLine) → ∃ bs, ReadAtMost h (PyData.depthAll ps) bs ∧ ReprAllK P w bs h (PyData.depthAll ps) us (PyData.shownAll ps)
section
variable {P : Program} {w : World} {h : Heap}
theorem RD.flat {u : Value} {p : PyData} (r : Reads h u p []) (nr : ∀ a, u ≠ .ref a) (k : p.showable = true → p.shown.length ≤ sizeLine → ReprIs P w u p.shown) : RD P w h u p :=
  ⟨⟨_, r⟩, fun h1 h2 => ⟨[], (fun _ z => nomatch z), .of_is (k h1 h2) _ _ _⟩, fun a e => absurd e (nr a)⟩
theorem RD.non : RD P w h .none .none := .flat .none (fun _ z => nomatch z) fun _ _ => by simp only [PyData.shown]; exact ReprIs.none
theorem RD.bl (b : Bool) : RD P w h (.bool b) (.bool b) := .flat (.bool b) (fun _ z => nomatch z) fun _ _ => by simp only [PyData.shown]; exact ReprIs.bool b
theorem RD.int (i : Int) (t : Tok) : RD P w h (.int i t) (.int i) := .flat (.int i t) (fun _ z => nomatch z) fun z _ => by simp only [PyData.shown]; exact ReprIs.int t (by simpa [PyData.showable] using z)
theorem RD.str (x : Str) (t : Tok) : RD P w h (.str x t) (.str x) := .flat (.str x t) (fun _ z => nomatch z) fun _ z => by simp only [PyData.shown]; exact ReprIs.str x t (by simpa only [PyData.shown] using z)
theorem RDs.nil : RDs P w h [] [] := ⟨⟨_, .nil⟩, fun _ _ => ⟨[], (fun _ z => nomatch z), by simp only [PyData.shownAll]; exact .nil⟩⟩
theorem RDs.cons {u : Value} {p : PyData} {us : List Value} {ps : List PyData} (a : RD P w h u p) (b : RDs P w h us ps) : RDs P w h (u :: us) (p :: ps) := by
  obtain ⟨as, ra⟩ := a.rd
  obtain ⟨bs, rb⟩ := b.rd
  refine ⟨⟨_, .cons ra rb⟩, fun sh len => ?_⟩
  have s2 : p.showable = true ∧ PyData.showableAll ps = true := by simpa [PyData.showableAll] using sh
  obtain ⟨l1, m1, k1⟩ := a.kr s2.1 (len _ (by simp only [PyData.shownAll]; exact List.mem_cons_self))
  obtain ⟨l2, m2, k2⟩ := b.kr s2.2 fun t ht => len t (by simp only [PyData.shownAll]; exact List.mem_cons_of_mem _ ht)
  refine ⟨l1 ++ l2, ?_, ?_⟩
  · simp only [PyData.depthAll]
    exact (m1.mono (Nat.le_max_left _ _)).append (m2.mono (Nat.le_max_right _ _))
  · simp only [PyData.depthAll, PyData.shownAll]
    exact .cons ((k1.more fun z hz => List.mem_append_left _ hz).level_le (Nat.le_max_left _ _)) (k2.more_le (fun z hz => List.mem_append_right _ hz) (Nat.le_max_right _ _))
theorem RD.tup {a : Addr} {o : Obj} {vs : Array Value} {n : Nat} {xs : List PyData} (e1 : h.get? a = some o) (e2 : o.cls = .type "tuple") (e3 : o.data = .seq vs n) (r : RDs P w h vs.toList xs) : RD P w h (.ref a) (.tuple xs) := by
  obtain ⟨as, ra⟩ := r.rd
  have R : Reads h (.ref a) (.tuple xs) as := .tuple e1 e2 e3 ra
  have key : (PyData.tuple xs).showable = true → (PyData.tuple xs).shown.length ≤ sizeLine → ∃ bs, a ∉ bs ∧ ReadAtMost h (PyData.depthAll xs) bs ∧ ReprAllK P w bs h (PyData.depthAll xs) vs.toList (PyData.shownAll xs) := fun sh len => by
    have len2 : (tupleText (PyData.shownAll xs)).length ≤ sizeLine := by simpa only [PyData.shown] using len
    obtain ⟨bs, m, k⟩ := r.kr (by simpa [PyData.showable] using sh) fun t ht => Nat.le_trans (tupleText_mem_le ht) len2
    exact ⟨bs, not_mem_of_deeper R (by simp only [PyData.depth]; omega) m, m, k⟩
  refine ⟨⟨_, R⟩, fun sh len => ?_, fun a' ea sh len => ?_⟩
  · obtain ⟨bs, na, m, k⟩ := key sh len
    refine ⟨a :: bs, ReadAtMost.cons R (by simp only [PyData.depth]; omega) m, ?_⟩
    simp only [PyData.depth, PyData.shown]
    exact ReprK.tuple e1 e2 e3 na k
  · cases ea
    obtain ⟨bs, na, m, k⟩ := key sh len
    refine ⟨"tuple", "tuple.__repr__", F.slot_tuple_repr, F.slot_tuple_str, F.slot_tuple_format, fun s kp => ⟨o, kp _ _ e1, e2⟩, fun A E s Q hg hu kp fin => ?_⟩
    simp only [PyData.depth] at hu
    simp only [PyData.shown] at fin len
    exact call_tuple_reprK e1 e2 e3 na k hg (fun b _ => Clear.nil b) hu kp fin len
theorem RD.lst {a : Addr} {o : Obj} {vs : Array Value} {n : Nat} {xs : List PyData} (e1 : h.get? a = some o) (e2 : o.cls = .type "list") (e3 : o.data = .seq vs n) (r : RDs P w h vs.toList xs) : RD P w h (.ref a) (.list xs) := by
  obtain ⟨as, ra⟩ := r.rd
  have R : Reads h (.ref a) (.list xs) (a :: as) := .list e1 e2 e3 ra
  have key : (PyData.list xs).showable = true → (PyData.list xs).shown.length ≤ sizeLine → ∃ bs, a ∉ bs ∧ ReadAtMost h (PyData.depthAll xs) bs ∧ ReprAllK P w bs h (PyData.depthAll xs) vs.toList (PyData.shownAll xs) := fun sh len => by
    have len2 : (listText (PyData.shownAll xs)).length ≤ sizeLine := by simpa only [PyData.shown] using len
    obtain ⟨bs, m, k⟩ := r.kr (by simpa [PyData.showable] using sh) fun t ht => Nat.le_trans (listText_mem_le ht) len2
    exact ⟨bs, not_mem_of_deeper R (by simp only [PyData.depth]; omega) m, m, k⟩
  obtain ⟨l⟩ := vs
  refine ⟨⟨_, R⟩, fun sh len => ?_, fun a' ea sh len => ?_⟩
  · obtain ⟨bs, na, m, k⟩ := key sh len
    refine ⟨a :: bs, ReadAtMost.cons R (by simp only [PyData.depth]; omega) m, ?_⟩
    simp only [PyData.depth, PyData.shown]
    cases l with
    | nil =>
      have ra' : ReadsAll h [] xs _ := ra
      cases ra'
      simp only [PyData.shownAll, listText_nil]
      exact ReprK.listEmpty e1 e2 e3
    | cons x l => exact ReprK.list e1 e2 e3 na (by simpa using k.length_eq) fun i y e => k.item i y (by simpa using e)
  · cases ea
    obtain ⟨bs, na, m, k⟩ := key sh len
    refine ⟨"list", "list.__repr__", F.slot_list_repr.toG, F.slot_list_str, F.slot_list_format, fun s kp => ⟨o, kp _ _ e1, e2⟩, fun A E s Q hg hu kp fin => ?_⟩
    simp only [PyData.depth] at hu
    simp only [PyData.shown] at fin len
    cases l with
    | nil =>
      have ra' : ReadsAll h [] xs _ := ra
      cases ra'
      simp only [PyData.shownAll, listText_nil] at fin
      exact call_list_repr_empty ⟨o, kp _ _ e1, e2⟩ (kp _ _ e1) e3 (fin s.heap _ _ fun _ _ e => e)
    | cons x l => exact call_list_reprK e1 e2 e3 na (by simpa using k.length_eq) (fun i y e => k.item i y (by simpa using e)) hg (fun b _ => Clear.nil b) hu kp fin len
theorem RD.dict {a : Addr} {o : Obj} {es : Array DictEntry} {n : Nat} {kvs : List (PyData × PyData)} (e1 : h.get? a = some o) (e2 : o.cls = .type "dict") (e3 : o.data = .dict es n) (ns : (a == sysModules) = false) (r : RDs P w h (es.toList.map (·.key)) (kvs.map (·.1))) (q : RDs P w h (es.toList.map (·.val)) (kvs.map (·.2))) : RD P w h (.ref a) (.dict kvs) := by
  obtain ⟨as, ra⟩ := r.rd
  obtain ⟨bs, rb⟩ := q.rd
  have R : Reads h (.ref a) (.dict kvs) _ := .dict e1 e2 e3 ra rb
  have key : (PyData.dict kvs).showable = true → (PyData.dict kvs).shown.length ≤ sizeLine → ∃ l, a ∉ l ∧ ReadAtMost h (PyData.depthKv kvs) l ∧ ReprEntriesK P w l h (PyData.depthKv kvs) es.toList (PyData.shownKv kvs) := fun sh len => by
    have len2 : (dictText (PyData.shownKv kvs)).length ≤ sizeLine := by simpa only [PyData.shown] using len
    obtain ⟨s1, s2⟩ := PyData.showableKv_split kvs (by simpa [PyData.showable] using sh)
    obtain ⟨l1, m1, k1⟩ := r.kr s1 fun t ht => let ⟨p, hp, hl⟩ := PyData.shownKv_key_le kvs t ht; Nat.le_trans hl (Nat.le_trans (dictText_mem_le hp) len2)
    obtain ⟨l2, m2, k2⟩ := q.kr s2 fun t ht => let ⟨p, hp, hl⟩ := PyData.shownKv_val_le kvs t ht; Nat.le_trans hl (Nat.le_trans (dictText_mem_le hp) len2)
    have m : ReadAtMost h (PyData.depthKv kvs) (l1 ++ l2) := (m1.mono (PyData.depthAll_keys_le kvs)).append (m2.mono (PyData.depthAll_vals_le kvs))
    refine ⟨l1 ++ l2, not_mem_of_deeper R (by simp only [PyData.depth]; omega) m, m, ?_⟩
    rw [PyData.shownKv_eq]
    exact ReprEntriesK.of_two es.toList _ _ (k1.more_le (fun b hb => List.mem_append_left _ hb) (PyData.depthAll_keys_le kvs)) (k2.more_le (fun b hb => List.mem_append_right _ hb) (PyData.depthAll_vals_le kvs))
  refine ⟨⟨_, R⟩, fun sh len => ?_, fun a' ea sh len => ?_⟩
  · obtain ⟨l, na, m, k⟩ := key sh len
    refine ⟨a :: l, ReadAtMost.cons R (by simp only [PyData.depth]; omega) m, ?_⟩
    simp only [PyData.depth, PyData.shown]
    exact ReprK.dict e1 e2 e3 ns na k
  · cases ea
    obtain ⟨l, na, m, k⟩ := key sh len
    refine ⟨"dict", "dict.__repr__", F.slot_dict_repr, F.slot_dict_str, F.slot_dict_format, fun s kp => ⟨o, kp _ _ e1, e2⟩, fun A E s Q hg hu kp fin => ?_⟩
    simp only [PyData.depth] at hu
    simp only [PyData.shown] at fin len
    exact call_dict_reprK e1 e2 e3 ns na k hg (fun b _ => Clear.nil b) hu kp fin len
theorem RDs.keys : ∀ {es : List DictEntry} {ks : List Key} {vs : List (Key × Value)}, Pairs (mixKind P w) es vs → vs.map (·.1) = ks → RDs P w h (es.map (·.key)) (ks.map keyP)
  | [], ks, _, .nil, e => by cases e; exact .nil
  | e0 :: es, ks, _, .cons (kv := kv) hk hv ht, e => by
    cases e
    refine .cons ?_ (RDs.keys ht rfl)
    rcases keyIs_shape hk with ⟨i, t, e1, e2⟩ | ⟨x, t, e1, e2⟩
    · show RD P w h e0.key (keyP kv.1)
      rw [e1, e2]; exact .int i t
    · show RD P w h e0.key (keyP kv.1)
      rw [e1, e2]; exact .str x t
theorem RDs.items : ∀ {ks : List Key} {us : List Value}, ItemsAre (mixKind P w) ks us → RDs P w h us (ks.map keyP)
  | [], _, .nil => .nil
  | k :: ks, _, .cons hk t => by
    refine .cons ?_ (RDs.items t)
    rcases keyIs_shape hk with ⟨i, t, rfl, rfl⟩ | ⟨x, t, rfl, rfl⟩
    · exact .int i t
    · exact .str x t
end
end DL
end

section
set_option Elab.async false
set_option linter.all false
set_option autoImplicit false
set_option maxRecDepth 100000
set_option maxHeartbeats 1000000
namespace DL
open PySem PySem.Spec PyProof.Rows L2
section
variable {X : Cx} {ea : Option (Addr × Option Addr)} {pins : List (Addr × Obj)} {σ : L2.St} {H : Hp} {s : Shared} {L : List Addr} {M : Addr → Prop}
theorem kt_keys {P : Program} {w : World} {h : Heap} : ∀ {xs : List (List Key × Addr × Value)}, (∀ x ∈ xs, (tupleKind (mixKind P w)).is h x.1 x.2.1) → RDs P w h ((xs.map (entryOfKey (tupleKind (mixKind P w)))).map (·.key)) ((xs.map (·.1)).map fun k => .tuple (k.map keyP))
  | [], _ => .nil
  | x :: xs, hx => by
    refine .cons ?_ (kt_keys fun y hy => hx y (List.mem_cons_of_mem _ hy))
    obtain ⟨o, its, n, e1, e2, e3, e4⟩ := hx x List.mem_cons_self
    exact .tup e1 e2 e3 (.items e4)
theorem pyDs_len : ∀ (l : List D) (ps : List PyData), pyDs l = some ps → ps.length = l.length
  | [], ps, e => by cases e; rfl
  | d :: ds, ps, e => by
    unfold pyDs at e
    split at e
    · rename_i x y z1 z2
      cases e
      rw [List.length_cons, List.length_cons, pyDs_len ds y z2]
    · cases e
theorem kv_vals : ∀ {ks : List Key} {vs : List V} {ws : List (Key × Value)}, ks.length = vs.length → KV (ks.zip vs) ws → Vals vs (ws.map (·.2))
  | [], [], ws, _, q => by cases q; exact .nil
  | k :: ks, v :: vs, ws, e, q => by
    rw [List.zip_cons_cons] at q
    unfold KV at q
    cases q with
    | cons a b => exact .cons a.2 (kv_vals (by simpa using e) b)
  | [], _ :: _, _, e, _ => by cases e
  | _ :: _, [], _, e, _ => by cases e
theorem kv_keys : ∀ {ks : List Key} {vs : List V} {ws : List (Key × Value)}, ks.length = vs.length → KV (ks.zip vs) ws → ws.map (·.1) = ks
  | [], [], ws, _, q => by cases q; rfl
  | k :: ks, v :: vs, ws, e, q => by
    rw [List.zip_cons_cons] at q
    unfold KV at q
    cases q with
    | cons a b =>
      rw [List.map_cons, kv_keys (by simpa using e) b, ← a.1]
  | [], _ :: _, _, e, _ => by cases e
  | _ :: _, [], _, e, _ => by cases e
theorem kt_vals : ∀ {ks : List (List Key)} {vs : List V} {ws : List (List Key × Addr × Value)}, ks.length = vs.length → KT H (ks.zip vs) ws → Vals vs (ws.map (·.2.2))
  | [], [], ws, _, q => by cases q; exact .nil
  | k :: ks, v :: vs, ws, e, q => by
    rw [List.zip_cons_cons] at q
    cases q with
    | cons a b => exact .cons a.2.2 (kt_vals (by simpa using e) b)
  | [], _ :: _, _, e, _ => by cases e
  | _ :: _, [], _, e, _ => by cases e
theorem kt_keysEq : ∀ {ks : List (List Key)} {vs : List V} {ws : List (List Key × Addr × Value)}, ks.length = vs.length → KT H (ks.zip vs) ws → ws.map (·.1) = ks
  | [], [], ws, _, q => by cases q; rfl
  | k :: ks, v :: vs, ws, e, q => by
    rw [List.zip_cons_cons] at q
    cases q with
    | cons a b =>
      rw [List.map_cons, kt_keysEq (by simpa using e) b, ← a.1]
  | [], _ :: _, _, e, _ => by cases e
  | _ :: _, [], _, e, _ => by cases e
theorem pairs_vals {P : Program} {w : World} : ∀ {es : List DictEntry} {kvs : List (Key × Value)}, Pairs (mixKind P w) es kvs → es.map (·.val) = kvs.map (·.2)
  | [], _, .nil => rfl
  | e0 :: es, _, .cons _ h2 h3 => by rw [List.map_cons, List.map_cons, h2, pairs_vals h3]
mutual
theorem rd_of (I : Inv X pins σ H s) : ∀ (d : D) (v : V) (u : Value) (p : PyData), Rep (gx X ea) L M H d v → RelV v u → pyD d = some p → RD X.prog X.w s.heap u p
  | .non, v, u, p, r, q, e => by
    cases e
    cases (show v = V.non from r)
    cases (show u = Value.none from q)
    exact .non
  | .bl b, v, u, p, r, q, e => by
    cases e
    cases (show v = V.bl b from r)
    cases (show u = Value.bool b from q)
    exact .bl b
  | .int i, v, u, p, r, q, e => by
    cases e
    cases (show v = V.int i from r)
    obtain ⟨t, rfl⟩ := (show ∃ t, u = Value.int i t from q)
    exact .int i t
  | .str x, v, u, p, r, q, e => by
    cases e
    cases (show v = V.str x from r)
    obtain ⟨t, rfl⟩ := (show ∃ t, u = Value.str x t from q)
    exact .str x t
  | .tup l, v, u, p, r, q, e => by
    obtain ⟨a, vs, rfl, sq, rs⟩ := r
    cases (show u = Value.ref a from q)
    unfold pyD at e
    cases z : pyDs l with
    | none => rw [z] at e; cases e
    | some ps =>
      rw [z] at e
      cases e
      obtain ⟨its, rv, ⟨o, e1, e2, n, e3⟩, _⟩ := I.tuple sq
      exact .tup e1 e2 e3 (by simpa using rds_of I l vs its ps rs rv z)
  | .lst l, v, u, p, r, q, e => by
    obtain ⟨a, vs, rfl, _, sq, rs⟩ := r
    cases (show u = Value.ref a from q)
    unfold pyD at e
    cases z : pyDs l with
    | none => rw [z] at e; cases e
    | some ps =>
      rw [z] at e
      cases e
      obtain ⟨its, rv, ⟨o, n, e1, e2, _, e3⟩, _⟩ := I.list (SqL.of sq)
      exact .lst e1 e2 e3 (by simpa using rds_of I l vs its ps rs rv z)
  | .frl l, v, u, p, r, q, e => by
    obtain ⟨a, vs, rfl, sq, rs⟩ := r
    cases (show u = Value.ref a from q)
    unfold pyD at e
    cases z : pyDs l with
    | none => rw [z] at e; cases e
    | some ps =>
      rw [z] at e
      cases e
      obtain ⟨its, rv, ⟨o, n, e1, e2, _, e3⟩, _⟩ := I.list sq.l
      exact .lst e1 e2 e3 (by simpa using rds_of I l vs its ps rs rv z)
  | .dK ks l, v, u, p, r, q, e => by
    obtain ⟨a, vs, rfl, _, rd, rs, hl⟩ := r
    cases (show u = Value.ref a from q)
    unfold pyD at e
    cases z : pyDs l with
    | none => rw [z] at e; cases e
    | some ps =>
      rw [z] at e
      cases e
      obtain ⟨_, ns, ws, kv, o, es, ep, e1, ex, e3, _, pr, _⟩ := dk_rd I.hok rd
      have R := rds_of I l vs (ws.map (·.2)) ps rs (kv_vals hl kv) z
      have hps : ps.length = vs.length := (pyDs_len l ps z).trans rs.length
      refine .dict e1 ex.1 e3 ns ?_ ?_
      · rw [List.map_fst_zip (by simp; omega)]
        exact .keys pr (kv_keys hl kv)
      · rw [List.map_snd_zip (by simp; omega), pairs_vals pr]
        exact R
  | .dT ks l, v, u, p, r, q, e => by
    obtain ⟨a, vs, rfl, _, rd, rs, hl⟩ := r
    cases (show u = Value.ref a from q)
    unfold pyD at e
    cases z : pyDs l with
    | none => rw [z] at e; cases e
    | some ps =>
      rw [z] at e
      cases e
      obtain ⟨_, ns, ws, kv, o, es, ep, e1, ex, e3, e4, hk, _⟩ := dt_rd I.hok (.inl rd)
      have R := rds_of I l vs (ws.map (·.2.2)) ps rs (kt_vals hl kv) z
      have hps : ps.length = vs.length := (pyDs_len l ps z).trans rs.length
      refine .dict e1 ex.1 e3 ns ?_ ?_
      · rw [List.map_fst_zip (by simp; omega), e4]
        have K := kt_keys (P := X.prog) (w := X.w) (h := s.heap) hk
        rw [kt_keysEq hl kv] at K
        exact K
      · rw [List.map_snd_zip (by simp; omega), e4, List.map_map]
        exact R
  | .own _, _, _, _, _, _, e | .cls _, _, _, _, _, _, e | .ref _, _, _, _, _, _, e | .ty _, _, _, _, _, _, e | .obj _ _ _, _, _, _, _, _, e | .err _ _ _ _, _, _, _, _, _, e => by cases e
theorem rds_of (I : Inv X pins σ H s) : ∀ (ds : List D) (vs : List V) (us : List Value) (ps : List PyData), Reps (gx X ea) L M H ds vs → Vals vs us → pyDs ds = some ps → RDs X.prog X.w s.heap us ps
  | [], vs, us, ps, r, q, e => by
    cases e
    cases (show vs = [] from r)
    cases q
    exact .nil
  | d :: ds, vs, us, ps, r, q, e => by
    obtain ⟨v, vr, rfl, r1, r2⟩ := r
    cases q with
    | cons q1 q2 =>
      unfold pyDs at e
      split at e
      · rename_i x y z1 z2
        cases e
        exact .cons (rd_of I d v _ x r1 q1 z1) (rds_of I ds vr _ y r2 q2 z2)
      · cases e
end
def rRepr (X : Cx) (ea : Option (Addr × Option Addr)) : List V → Hp → VK → Prop := fun xs H Q => ∃ (L : List Addr) (M : Addr → Prop) (d : D) (a : Addr) (p : PyData), xs = [.ref a] ∧ Rep (gx X ea) L M H d (.ref a) ∧ pyD d = some p ∧ p.showable = true ∧ p.shown.length ≤ sizeLine ∧ p.depth ≤ 64 ∧ Q (.str p.shown) H
theorem call_repr (hg : X.A.guards = some []) (hu : X.A.units + 65 < cLine) : CallR X (.builtin "repr") (rRepr X ea) := by
  intro pins s σ H xs us Q I r h
  obtain ⟨L, M, d, a, p, rfl, rd, e, sh, len, dp, q⟩ := h
  rw [Vals.ref1 r]
  have R := rd_of I d (.ref a) (.ref a) p rd rfl e
  obtain ⟨T, idr, S⟩ := R.top a rfl sh len
  refine call_repr_slot (by omega) (S.typeIs s fun _ _ z => z) S.slotRepr (S.call X.A.in1 X.xe s _ hg (by show X.A.units + 1 + p.depth < cLine; omega) (fun _ _ z => z) fun h' u tk hk => ⟨_, _, rfl, ?_⟩)
  exact ⟨.str p.shown, H, I.kept (t' := tk) hk, ⟨u, rfl⟩, q⟩
def isBox : D → Bool
  | .tup _ => true
  | .lst _ => true
  | .frl _ => true
  | .dK _ _ => true
  | .dT _ _ => true
  | _ => false
def oRepr : List D → Sto → Res D
  | [d], μ => match pyD d with
    | some p => if isBox d && p.showable && decide (p.shown.length ≤ sizeLine) && decide (p.depth ≤ 64) then .ok (.str p.shown) μ else .bad
    | none => .bad
  | _, _ => .bad
theorem box_ref {d : D} {v : V} (r : Rep (gx X ea) L M H d v) (h : isBox d = true) : ∃ a, v = .ref a := by
  cases d with
  | tup l => obtain ⟨a, _, e, _⟩ := r; exact ⟨a, e⟩
  | lst l => obtain ⟨a, _, e, _⟩ := r; exact ⟨a, e⟩
  | frl l => obtain ⟨a, _, e, _⟩ := r; exact ⟨a, e⟩
  | dK ks l => obtain ⟨a, _, e, _⟩ := r; exact ⟨a, e⟩
  | dT ks l => obtain ⟨a, _, e, _⟩ := r; exact ⟨a, e⟩
  | _ => exact nomatch h
theorem cg_repr : CaG (gx X ea) (rRepr X ea) oRepr := by
  intro W M0 L μ H ρ σ ds vs Q g rs q
  unfold oRepr at q
  split at q
  · rename_i d
    obtain ⟨v, rfl, r⟩ := rs.one
    split at q
    · rename_i p z
      split at q
      · rename_i hq
        simp only [Bool.and_eq_true, decide_eq_true_eq] at hq
        obtain ⟨a, rfl⟩ := box_ref r hq.1.1.1
        exact ⟨L, _, d, a, p, rfl, r, z, hq.1.1.2, hq.1.2, hq.2, After.val q g rfl⟩
      · exact q.elim
    · exact q.elim
  · exact q.elim
end
end DL
end

section
set_option Elab.async false
set_option linter.all false
set_option autoImplicit false
set_option maxRecDepth 100000
set_option maxHeartbeats 1000000
namespace DL
open PySem PySem.Spec PyProof.Rows L2
/-! the law's own def, called from the top: no guard is under way -/
/-- what a def promises under one surrounding -/
structure FnC (A : Around) (P : Program) (w : World) (K : PySem.W.Frag) (mg : Str → Option Value) (base : Heap) (CX : CXT) (f : Addr) (fd : FuncData) (ps : List Str) (sp : Sp) : Prop where
  go : ∀ (outer : List PySem.Env) (s : Shared) (H : Hp) (args : Args) (us : List Value) (vs : List V) (Q : VK) (E : XK), Env0 P w K mg base A outer s H → BindsTo s fd args (ps.zip us) → Vals vs us → sp vs H Q E →
    codeAny (model P w) A (.call (.ref f) args) (CR CX outer P w H s Q E) s
section
variable {P : Program} {w : World} {K : PySem.W.Frag} {mg : Str → Option Value} {base : Heap} {x qual : Str} {params : Arguments} {body : List Stmt} {scope : Scope} {dvs : List V} {kws : List (Str × V)} {f : Addr} {fd : FuncData} {CX : CXT} {N ps : List Str} {k : Nat} {sp : Sp} {A : Around}
theorem fnC_of (F : FunD K x qual params body scope dvs kws f fd) (S : FnScope N ps scope) (len : ∀ vs H Q E, sp vs H Q E → vs.length = ps.length) (hr : Room (k + 1) A)
    (hb : ∀ (cdv : Value) (outer : List PySem.Env) (s : Shared) (H : Hp) (vs : List V) (Q : VK) (E : XK), Room k (A.deeper (envOfC qual scope s.heap.objs.size f cdv)) → sp vs H Q E →
      ∃ t, PSs (cxOf CX P w K mg base N qual scope f cdv A outer s H E) body t ∧ t { nx := fun _ H' => Q .non H', rt := Q } (start N vs) H) : FnC A P w K mg base CX f fd ps sp := by
  obtain ⟨oc, od, dV, kV, doc, pm, an, cdv, ct, osl, rfl, lk, hcd, _, _⟩ := F.ex
  refine ⟨fun outer s H args us vs Q E e0 bd r hsp => ?_⟩
  have kin : K.In s.heap := e0.mod.kin.keeps fun b o e => (e0.bs b o e).1
  have nolim : s.heap.NoLimit := e0.mod.nolimit.keeps fun b o e => (e0.bs b o e).1
  have kinds : ∀ y ∈ ps.zip us, scope.names.lookup y.1 = some .local ∨ (scope.names.lookup y.1 = some .cell ∧ ((cellsFrom (s.heap.objs.size + 1) scope.names []).lookup y.1).isSome = true) := by
    rintro ⟨n, v⟩ hy
    cases S.par n (List.of_mem_zip hy).1 with
    | inl z => exact .inl z
    | inr z => exact .inr ⟨z, PySem.W.cellsFrom_some _ _ _ (.inl z)⟩
  refine codeAny_call_function hr.depth (kin _ _ lk) rfl S.co S.gen rfl (PySem.W.codeRec_of kin hcd) (bd _ _ _ _ (wpAny_newFunctionEnv_cells S.kind kinds fun env he s1 y => ?_))
  cases he
  refine ⟨nolim.keeps y.toInCall.keep, codeAny_func ?_⟩
  obtain ⟨t, ht, hq⟩ := hb cdv outer s H vs Q E (hr.deeper _) hsp
  have I : Inv (cxOf CX P w K mg base N qual scope f cdv A outer s H E) [] (start N vs) H s1 := inv_start S hr.hd e0 (len _ _ _ _ hsp) r y
  refine wpAny_mono (ht.run [] s1 (start N vs) H _ I hq) (fun fl s' hs => ?_) fun e s' hs => hs
  match fl, hs with
  | .ret u, ⟨v, σ', H', J, rv, q⟩ => exact ⟨v, H', J.os, J.bare, J.base, J.hok, rv, q⟩
  | .next, ⟨σ', H', J, q⟩ => exact ⟨V.non, H', J.os, J.bare, J.base, J.hok, (rfl : Value.none = Value.none), q⟩
  | .brk, ⟨_, _, _, q⟩ => exact q.elim
  | .cont, ⟨_, _, _, q⟩ => exact q.elim
end
/-- the script alone is tracked: known to the object, or one of the module's own -/
theorem script_hp {P : Program} {w : World} {K : PySem.W.Frag} {h : Heap} {a : Addr} {vs : List Value} {ns : List Int} (KX : K.In h) (ga : h.get? a = some { cls := .type "list", data := .seq vs.toArray }) (hi : IntsAre vs ns) (hl : ns.length ≤ sizeLine) :
    ∃ H : Hp, Only H ∧ SqL K H a (ns.map V.int) ∧ HOk P w H h ∧ (∀ b, H b ≠ none → b = a ∧ K.lookup a = none) := by
  have rv := vals_ints hi
  cases lk : K.lookup a with
  | some o =>
    have e := KX a o lk
    rw [ga] at e
    cases e
    exact ⟨fun _ => none, fun _ => .inl rfl, .inr ⟨_, vs.toArray, _, lk, rfl, rfl, rfl, by rw [List.size_toArray, hi.length]; exact hl, by simpa using rv⟩, fun b u z => (nomatch z), fun b z => absurd rfl z⟩
  | none =>
    refine ⟨fun b => if b = a then some (.frz { cls := .type "list", data := .seq vs.toArray } (.lst (ns.map V.int))) else none, fun b => ?_, .inl (.inr ⟨_, if_pos rfl⟩), fun b u z => ?_, fun b z => ?_⟩
    · by_cases e : b = a
      · exact .inr ⟨_, _, if_pos e⟩
      · exact .inl (if_neg e)
    · by_cases e : b = a
      · have z2 := (if_pos e).symm.trans z
        cases z2
        cases e
        exact ⟨ga, by rw [List.length_map]; exact hl, vs, _, rv, ga⟩
      · have z2 := (if_neg e).symm.trans z
        cases z2
    · by_cases e : b = a
      · exact ⟨e, rfl⟩
      · exact absurd (if_neg e) z
theorem law_callC {P : Program} {w : World} {K : PySem.W.Frag} {mg mb : Str → Option Value} {CX : CXT} {fa a : Addr} {fd : FuncData} {x : Str} {sp : Sp} {s₁ : Shared} {vs : List Value} {ns : List Int}
    (KX : K.In s₁.heap) (nsG : s₁.heap.Ns mainGlobals mg) (nsB : s₁.heap.Ns builtinsNs mb) (bb : ∀ x : Str, x ≠ "__name__" → mb x = bootBuiltins x) (nolim : s₁.heap.NoLimit) (gens : s₁.gens = #[])
    (ga : s₁.heap.get? a = some { cls := .type "list", data := .seq vs.toArray }) (hi : IntsAre vs ns) (hl : ns.length ≤ sizeLine)
    (F : ∀ base : Heap, K.In base → base.Ns mainGlobals mg → FnC callerA P w K mg base CX fa fd [x] sp) (hbind : ∀ (s : Shared) (u : Value), BindsTo s fd ⟨[u], []⟩ [(x, u)])
    (hsp : ∀ H : Hp, Only H → SqL K H a (ns.map V.int) → sp [.ref a] H (fun v _ => v = .bl true) fun _ _ _ => False) (hCX : ∀ H e s', CX [] H s₁ (fun _ _ _ => False) e s' → False) :
    codeAny (model P w) callerA (.call (.ref fa) ⟨[.ref a], []⟩) (fun r s' => r = .ok (.ret (.bool true)) ∧ OldK s₁.heap s'.heap ∧ s'.os = s₁.os ∧ AllBare s'.gens) s₁ := by
  obtain ⟨H, hO, hS, hok, hA⟩ := script_hp (P := P) (w := w) KX ga hi hl
  have free : ∀ {b : Addr} {o : Obj}, s₁.heap.get? b = some o → (b = a → ∃ es ep, o.data = .dict es ep) → H b = none := fun {b o} e hd => by
    cases z : H b with
    | none => rfl
    | some u =>
      have e1 := (hA b (by rw [z]; exact fun y => nomatch y)).1
      obtain ⟨es, ep, hd⟩ := hd e1
      rw [e1, ga] at e
      cases e
      cases hd
  have kin : K.In (hidT s₁.heap H) := fun b o e => hidT_get (KX b o e) (by
    cases z : H b with
    | none => rfl
    | some u =>
      obtain ⟨e1, e2⟩ := hA b (by rw [z]; exact fun y => nomatch y)
      rw [e1, e2] at e
      cases e)
  have ns : ∀ {b : Addr} {m : Str → Option Value}, s₁.heap.Ns b m → (hidT s₁.heap H).Ns b m := fun {b m} ⟨o, es, ep, e, d, r⟩ => ⟨o, es, ep, hidT_get e (free e fun _ => ⟨es, ep, d⟩), d, r⟩
  have e0 : Env0 P w K mg (hidT s₁.heap H) callerA [] s₁ H :=
    { frames := rfl, mod := ⟨kin, ns nsG, ⟨mb, ns nsB, bb⟩, let ⟨mc, z1, z2⟩ := nolim; ⟨mc, ns z1, z2⟩⟩, bs := fun b o e => of_hidT e, bsz := Nat.le_of_eq (hidT_size _ _), funs := trivial, frf := fun b z => (by cases (show b ∈ ([] : List Addr) from z)), hok := hok, bare := .of_eq gens }
  refine codeAny_mono ((F _ kin (ns nsG)).go [] s₁ H ⟨[.ref a], []⟩ [.ref a] [.ref a] _ _ e0 (hbind s₁ (.ref a)) (.cons rfl .nil) (hsp H hO hS)) fun r s' hr => ?_
  match r, hr with
  | .error e, hr => exact (hCX H e s' hr).elim
  | .ok .next, hr => exact hr.elim
  | .ok .brk, hr => exact hr.elim
  | .ok .cont, hr => exact hr.elim
  | .ok (.ret u), ⟨v, H', os, bare, un, hok2, rv, q⟩ =>
    have qv : v = .bl true := q
    cases qv
    cases (show u = Value.bool true from rv)
    refine ⟨rfl, OldK.of_keep fun b o e => ?_, os, bare⟩
    cases hO b with
    | inl z => exact un.keep b o e z (fun y => by cases (show b ∈ ([] : List Addr) from y)) (by simp)
    | inr z =>
      obtain ⟨ob, xs, z⟩ := z
      obtain ⟨c1, _⟩ := hok b _ z
      obtain ⟨c2, _⟩ := hok2 b _ (un.frzs b ob _ z)
      rw [e] at c1
      cases c1
      exact c2
/-- a law, of its def's promise at the top -/
theorem walk_C {l : PySem.W.OpenLaw} {n : Nat} {q : Program} {loose : List Str} {XP : (Str → Option Value) → Heap → Prop} {YP : World → Heap → Prop} {d : DefRec} {CX : CXT} {x : Str}
    (most : l.most = some n) (small : n ≤ sizeLine) (nodf : d.params.defaults = [])
    (F : ∀ (w : World) (mg : Str → Option Value) (fa : Addr) (h : Heap), YP w h → h.Ns mainGlobals mg → mg d.name = some (.ref fa) →
      ∃ (K : PySem.W.Frag) (fd : FuncData) (sp : Sp), K.In h ∧ (∀ (s : Shared) (u : Value), BindsTo s fd ⟨[u], []⟩ [(x, u)]) ∧
        (∀ (H : Hp) (a : Addr) (ns : List Int), ns.length ≤ n → Only H → SqL K H a (ns.map V.int) → sp [.ref a] H (fun v _ => v = .bl true) fun _ _ _ => False) ∧
        ∀ base : Heap, K.In base → base.Ns mainGlobals mg → FnC callerA l.prog w K mg base CX fa fd [x] sp)
    (hCX : ∀ (H : Hp) (s : Shared) (e : Value) (s' : Shared), CX [] H s (fun _ _ _ => False) e s' → False) :
    PySem.W.WalkO q loose XP YP l.row.toRowW d [] (fun f vs => PySem.call f vs) := by
  refine Att.attach_call most nodf fun w s₀ s₁ mg mb fa o pm cd doc a vs ns G Y ho hd hcd hmg hobj hints hlen hg => ?_
  obtain ⟨K, fd, sp, KX, hb, hs, hF⟩ := F w mg fa _ Y G.T.g hmg
  exact law_callC KX G.T.g G.T.b G.T.builtins G.T.nolimit hg hobj hints (Nat.le_trans hlen small) hF hb (fun H hO hS => hs H a ns hlen hO hS) fun H e s' => hCX H s₁ e s'
end DL
end

section
set_option Elab.async false
set_option linter.all false
set_option autoImplicit false
set_option maxRecDepth 100000
set_option maxHeartbeats 1000000
namespace DL
open PySem PySem.Spec PyProof.Rows L2
/-! short words for a program's printed derivations -/
section
variable {X : Cx} {ea : Option (Addr × Option Addr)} {W : WX} {a b e : Expr} {f g : FD} {pos p : Pos} {fa : Env → Sto → Res (List D)} {k : Nat}
theorem tk0 : L2N.Takes X W0 := fun _ _ ⟨_, _, _, _, _, _, _, _, _, _, _, _, _, _, _, _, z⟩ => z.elim
theorem room64 (hr : Room k X.A) : X.A.units + 64 < cLine := by have := hr.un; omega
theorem room65 (hr : Room k X.A) : X.A.units + 65 < cLine := by have := hr.un; omega
theorem room1 (hr : Room k X.A) : X.A.units + 1 < cLine := by have := hr.un; omega
theorem pd_eq (hr : Room k X.A) (ha : PE X a (tD (gx X ea) W f)) (hb : PE X b (tD (gx X ea) W g)) : PE X (.Compare a [.Eq] [b] pos) (tD (gx X ea) W (e2 (oEq false) f g)) := pd_cmp (op_eqE (room64 hr)) og_eq ha hb (nomark _)
theorem pd_ne (hr : Room k X.A) (ha : PE X a (tD (gx X ea) W f)) (hb : PE X b (tD (gx X ea) W g)) : PE X (.Compare a [.NotEq] [b] pos) (tD (gx X ea) W (e2 (oEq true) f g)) := pd_cmp (op_neE (room64 hr)) og_ne ha hb (nomark _)
theorem pd_isN (ha : PE X a (tD (gx X ea) W f)) (hb : PE X b (tD (gx X ea) W g)) : PE X (.Compare a [.Is] [b] pos) (tD (gx X ea) W (e2 (oIsN false) f g)) := pd_cmp op_isN og_isN ha hb (nomark _)
theorem pd_notN (ha : PE X a (tD (gx X ea) W f)) (hb : PE X b (tD (gx X ea) W g)) : PE X (.Compare a [.IsNot] [b] pos) (tD (gx X ea) W (e2 (oIsN true) f g)) := pd_cmp op_notN og_notN ha hb (nomark _)
theorem pd_in (ha : PE X a (tD (gx X ea) W f)) (hb : PE X b (tD (gx X ea) W g)) (hm : behindInMarks .In b = false := by first | rfl | exact nomark _) : PE X (.Compare a [.In] [b] pos) (tD (gx X ea) W (e2 (oIn false) f g)) := pd_cmp op_in_seq og_in ha hb hm
theorem pd_nin (ha : PE X a (tD (gx X ea) W f)) (hb : PE X b (tD (gx X ea) W g)) (hm : behindInMarks .NotIn b = false := by first | rfl | exact nomark _) : PE X (.Compare a [.NotIn] [b] pos) (tD (gx X ea) W (e2 (oIn true) f g)) := pd_cmp op_notIn_seq og_in ha hb hm
theorem td_lt (ha : PE X a (tD (gx X ea) W f)) (hb : PE X b (tD (gx X ea) W g)) : PT X (.Compare a [.Lt] [b] pos) (tDT (gx X ea) W (tB (e2 oLt f g))) := td_cmp op_lt (og_I0 fun _ _ _ _ _ => rfl) ha hb (nomark _)
theorem td_le (ha : PE X a (tD (gx X ea) W f)) (hb : PE X b (tD (gx X ea) W g)) : PT X (.Compare a [.LtE] [b] pos) (tDT (gx X ea) W (tB (e2 oLe f g))) := td_cmp op_le (og_I0 fun _ _ _ _ _ => rfl) ha hb (nomark _)
theorem td_gt (ha : PE X a (tD (gx X ea) W f)) (hb : PE X b (tD (gx X ea) W g)) : PT X (.Compare a [.Gt] [b] pos) (tDT (gx X ea) W (tB (e2 oGt f g))) := td_cmp op_gt (og_I0 fun _ _ _ _ _ => rfl) ha hb (nomark _)
theorem td_ge (ha : PE X a (tD (gx X ea) W f)) (hb : PE X b (tD (gx X ea) W g)) : PT X (.Compare a [.GtE] [b] pos) (tDT (gx X ea) W (tB (e2 oGe f g))) := td_cmp op_ge (og_I0 fun _ _ _ _ _ => rfl) ha hb (nomark _)
theorem td_eq (hr : Room k X.A) (ha : PE X a (tD (gx X ea) W f)) (hb : PE X b (tD (gx X ea) W g)) : PT X (.Compare a [.Eq] [b] pos) (tDT (gx X ea) W (tB (e2 (oEq false) f g))) := td_cmp (op_eqE (room64 hr)) og_eq ha hb (nomark _)
theorem td_ne (hr : Room k X.A) (ha : PE X a (tD (gx X ea) W f)) (hb : PE X b (tD (gx X ea) W g)) : PT X (.Compare a [.NotEq] [b] pos) (tDT (gx X ea) W (tB (e2 (oEq true) f g))) := td_cmp (op_neE (room64 hr)) og_ne ha hb (nomark _)
theorem td_isN (ha : PE X a (tD (gx X ea) W f)) (hb : PE X b (tD (gx X ea) W g)) : PT X (.Compare a [.Is] [b] pos) (tDT (gx X ea) W (tB (e2 (oIsN false) f g))) := td_cmp op_isN og_isN ha hb (nomark _)
theorem td_notN (ha : PE X a (tD (gx X ea) W f)) (hb : PE X b (tD (gx X ea) W g)) : PT X (.Compare a [.IsNot] [b] pos) (tDT (gx X ea) W (tB (e2 (oIsN true) f g))) := td_cmp op_notN og_notN ha hb (nomark _)
theorem td_in (ha : PE X a (tD (gx X ea) W f)) (hb : PE X b (tD (gx X ea) W g)) (hm : behindInMarks .In b = false := by first | rfl | exact nomark _) : PT X (.Compare a [.In] [b] pos) (tDT (gx X ea) W (tB (e2 (oIn false) f g))) := td_cmp op_in_seq og_in ha hb hm
theorem td_nin (ha : PE X a (tD (gx X ea) W f)) (hb : PE X b (tD (gx X ea) W g)) (hm : behindInMarks .NotIn b = false := by first | rfl | exact nomark _) : PT X (.Compare a [.NotIn] [b] pos) (tDT (gx X ea) W (tB (e2 (oIn true) f g))) := td_cmp op_notIn_seq og_in ha hb hm
theorem pd_at (ha : PE X a (tD (gx X ea) W f)) (hb : PE X b (tD (gx X ea) W g)) (hs : PlainIx b := by exact fun _ _ => rfl) : PE X (.Subscript a b pos) (tD (gx X ea) W (e2 oIx f g)) := pd_ix ix_seq og_ix ha hb hs
theorem pd_len {es : List Expr} (hgl : Gl X "len") (hm : X.mg "len" = none) (ha : PA X (e :: es) (tDA (gx X ea) W fa)) (he : starEach (e :: es) X.env = (false, eval e X.env) :: starEach es X.env := by rfl) (hpl : (backTo pos (starEach es X.env)).any (·.1) = false := by rfl) : PE X (.Call (.Name "len" p) (e :: es) [] pos) (tD (gx X ea) W (eA oLen fa)) := pd_callB call_lenA cg_len hgl hm (by decide +kernel) ha (by decide) (by decide) he hpl
theorem pd_all {es : List Expr} (hc : X.calm = true) (hgl : Gl X "all") (hm : X.mg "all" = none) (ha : PA X (e :: es) (tDA (gx X ea) W fa)) (he : starEach (e :: es) X.env = (false, eval e X.env) :: starEach es X.env := by rfl) (hpl : (backTo pos (starEach es X.env)).any (·.1) = false := by rfl) : PE X (.Call (.Name "all" p) (e :: es) [] pos) (tD (gx X ea) W (eA (oAll false) fa)) := pd_callB (cr_all hc) cg_all hgl hm (by decide +kernel) ha (by decide) (by decide) he hpl
theorem pd_any {es : List Expr} (hc : X.calm = true) (hgl : Gl X "any") (hm : X.mg "any" = none) (ha : PA X (e :: es) (tDA (gx X ea) W fa)) (he : starEach (e :: es) X.env = (false, eval e X.env) :: starEach es X.env := by rfl) (hpl : (backTo pos (starEach es X.env)).any (·.1) = false := by rfl) : PE X (.Call (.Name "any" p) (e :: es) [] pos) (tD (gx X ea) W (eA (oAll true) fa)) := pd_callB (cr_any hc) cg_any hgl hm (by decide +kernel) ha (by decide) (by decide) he hpl
theorem pd_sum {es : List Expr} (hc : X.calm = true) (hgl : Gl X "sum") (hm : X.mg "sum" = none) (ha : PA X (e :: es) (tDA (gx X ea) W fa)) (he : starEach (e :: es) X.env = (false, eval e X.env) :: starEach es X.env := by rfl) (hpl : (backTo pos (starEach es X.env)).any (·.1) = false := by rfl) : PE X (.Call (.Name "sum" p) (e :: es) [] pos) (tD (gx X ea) W (eA oSum fa)) := pd_callB (cr_sum hc) cg_sum hgl hm (by decide +kernel) ha (by decide) (by decide) he hpl
theorem pd_abs {es : List Expr} (hgl : Gl X "abs") (hm : X.mg "abs" = none) (ha : PA X (e :: es) (tDA (gx X ea) W fa)) (he : starEach (e :: es) X.env = (false, eval e X.env) :: starEach es X.env := by rfl) (hpl : (backTo pos (starEach es X.env)).any (·.1) = false := by rfl) : PE X (.Call (.Name "abs" p) (e :: es) [] pos) (tD (gx X ea) W (eA oAbs fa)) := pd_callB call_abs cg_abs hgl hm (by decide +kernel) ha (by decide) (by decide) he hpl
theorem pd_max {es : List Expr} (hc : X.calm = true) (hgl : Gl X "max") (hm : X.mg "max" = none) (ha : PA X (e :: es) (tDA (gx X ea) W fa)) (he : starEach (e :: es) X.env = (false, eval e X.env) :: starEach es X.env := by rfl) (hpl : (backTo pos (starEach es X.env)).any (·.1) = false := by rfl) : PE X (.Call (.Name "max" p) (e :: es) [] pos) (tD (gx X ea) W (eA oMax2 fa)) := pd_callB (call_max2 hc) cg_max2 hgl hm (by decide +kernel) ha (by decide) (by decide) he hpl
theorem pd_min {es : List Expr} (hc : X.calm = true) (hgl : Gl X "min") (hm : X.mg "min" = none) (ha : PA X (e :: es) (tDA (gx X ea) W fa)) (he : starEach (e :: es) X.env = (false, eval e X.env) :: starEach es X.env := by rfl) (hpl : (backTo pos (starEach es X.env)).any (·.1) = false := by rfl) : PE X (.Call (.Name "min" p) (e :: es) [] pos) (tD (gx X ea) W (eA oMin2 fa)) := pd_callB (call_min2 hc) cg_min2 hgl hm (by decide +kernel) ha (by decide) (by decide) he hpl
theorem pd_toint {es : List Expr} (hgl : Gl X "int") (hm : X.mg "int" = none) (ha : PA X (e :: es) (tDA (gx X ea) W fa)) (he : starEach (e :: es) X.env = (false, eval e X.env) :: starEach es X.env := by rfl) (hpl : (backTo pos (starEach es X.env)).any (·.1) = false := by rfl) : PE X (.Call (.Name "int" p) (e :: es) [] pos) (tD (gx X ea) W (eA oInt fa)) := pd_callTy call_int1 cg_int hgl hm (by decide +kernel) ha (by decide) (by decide) he hpl
theorem pd_divmod {es : List Expr} (hgl : Gl X "divmod") (hm : X.mg "divmod" = none) (ha : PA X (e :: es) (tDA (gx X ea) W fa)) (he : starEach (e :: es) X.env = (false, eval e X.env) :: starEach es X.env := by rfl) (hpl : (backTo pos (starEach es X.env)).any (·.1) = false := by rfl) : PE X (.Call (.Name "divmod" p) (e :: es) [] pos) (tD (gx X ea) W (eA oDivmod fa)) := pd_callB call_divmodW cg_divmod hgl hm (by decide +kernel) ha (by decide) (by decide) he hpl
theorem pd_repr {es : List Expr} (hgd : X.A.guards = some []) (hr : Room k X.A) (hgl : Gl X "repr") (hm : X.mg "repr" = none) (ha : PA X (e :: es) (tDA (gx X ea) W fa)) (he : starEach (e :: es) X.env = (false, eval e X.env) :: starEach es X.env := by rfl) (hpl : (backTo pos (starEach es X.env)).any (·.1) = false := by rfl) : PE X (.Call (.Name "repr" p) (e :: es) [] pos) (tD (gx X ea) W (eA oRepr fa)) := pd_callB (call_repr hgd (room65 hr)) cg_repr hgl hm (by decide +kernel) ha (by decide) (by decide) he hpl
theorem pd_is {tb : Kinds} {es : List Expr} (ok : ∀ c, ClsOk X.K c ∨ ∀ b, tb (.cls c) b = none) (hk : KindsOk X.K tb) (hgl : Gl X "isinstance") (hm : X.mg "isinstance" = none) (ha : PA X (e :: es) (tDA (gx X ea) W fa)) (he : starEach (e :: es) X.env = (false, eval e X.env) :: starEach es X.env := by rfl) (hpl : (backTo pos (starEach es X.env)).any (·.1) = false := by rfl) : PE X (.Call (.Name "isinstance" p) (e :: es) [] pos) (tD (gx X ea) W (eA (oIs tb) fa)) := pd_callB call_isi (cg_is ok hk) hgl hm (by decide +kernel) ha (by decide) (by decide) he hpl
theorem pd_append {o : Expr} {es : List Expr} {apos : Pos} (ho : PE X o (tD (gx X ea) W f)) (ha : PA X (e :: es) (tDA (gx X ea) W fa)) (hbase : attributeBase o "append" X.env (eval o X.env) = eval o X.env := by rfl)
    (hfew : ((backTo pos (starEach (e :: es) X.env)).all (fun x => !x.1) && (backToKw pos (keywordEach [] X.env)).all (fun x => x.1.isSome) && decide ((e :: es).length + ([] : List Keyword).length + (if ([] : List Keyword).isEmpty then 0 else 1) < 30)) = true := by rfl)
    (hline : (apos.endLine == pos.line) = true := by rfl) (hs : starEach (e :: es) X.env = (false, eval e X.env) :: starEach es X.env := by rfl) (hplain : (backTo pos (starEach es X.env)).any (·.1) = false := by rfl) :
    PE X (.Call (.Attribute o "append" apos) (e :: es) [] pos) (tD (gx X ea) W (eBM "list" oAppend f fa)) := pd_bm PySem.F.plainAttrs_list PySem.F.slot_list_append (by rfl) mt_append mg_append (by decide) ho ha hbase hfew hline hs hplain
end
end DL
end

section
set_option Elab.async false
set_option linter.all false
set_option autoImplicit false
set_option maxRecDepth 100000
set_option maxHeartbeats 1000000
namespace DL
open PySem PySem.Spec PyProof.Rows L2
section
variable {X : Cx} {ea : Option (Addr × Option Addr)} {W : WX} {a b e : Expr} {f g : FD} {pos p : Pos} {fa : Env → Sto → Res (List D)} {k : Nat}
theorem pd_remove {o : Expr} {es : List Expr} {apos : Pos} (ho : PE X o (tD (gx X ea) W f)) (ha : PA X (e :: es) (tDA (gx X ea) W fa)) (hbase : attributeBase o "remove" X.env (eval o X.env) = eval o X.env := by rfl)
    (hfew : ((backTo pos (starEach (e :: es) X.env)).all (fun x => !x.1) && (backToKw pos (keywordEach [] X.env)).all (fun x => x.1.isSome) && decide ((e :: es).length + ([] : List Keyword).length + (if ([] : List Keyword).isEmpty then 0 else 1) < 30)) = true := by rfl)
    (hline : (apos.endLine == pos.line) = true := by rfl) (hs : starEach (e :: es) X.env = (false, eval e X.env) :: starEach es X.env := by rfl) (hplain : (backTo pos (starEach es X.env)).any (·.1) = false := by rfl) :
    PE X (.Call (.Attribute o "remove" apos) (e :: es) [] pos) (tD (gx X ea) W (eBM "list" oRemI f fa)) := pd_bm PySem.F.plainAttrs_list PySem.F.slot_list_remove (by rfl) mt_remove mg_remI (by decide) ho ha hbase hfew hline hs hplain
theorem pd_index {o : Expr} {es : List Expr} {apos : Pos} (ho : PE X o (tD (gx X ea) W f)) (ha : PA X (e :: es) (tDA (gx X ea) W fa)) (hbase : attributeBase o "index" X.env (eval o X.env) = eval o X.env := by rfl)
    (hfew : ((backTo pos (starEach (e :: es) X.env)).all (fun x => !x.1) && (backToKw pos (keywordEach [] X.env)).all (fun x => x.1.isSome) && decide ((e :: es).length + ([] : List Keyword).length + (if ([] : List Keyword).isEmpty then 0 else 1) < 30)) = true := by rfl)
    (hline : (apos.endLine == pos.line) = true := by rfl) (hs : starEach (e :: es) X.env = (false, eval e X.env) :: starEach es X.env := by rfl) (hplain : (backTo pos (starEach es X.env)).any (·.1) = false := by rfl) :
    PE X (.Call (.Attribute o "index" apos) (e :: es) [] pos) (tD (gx X ea) W (eBM "list" oIndex f fa)) := pd_bm PySem.F.plainAttrs_list PySem.F.slot_list_index (by rfl) mt_index mg_index (by decide) ho ha hbase hfew hline hs hplain
theorem pd_gI {x : Str} {i : Int} (hg : Gl X x) (hm : ∃ t, X.mg x = some (.int i t)) (hd : (x == ("__debug__" : Str)) = false := by decide) : PE X (.Name x pos) (tD (gx X ea) W (eC (.int i))) := by
  obtain ⟨t, h⟩ := hm
  exact pd_glob (v := .int i) hg h ⟨t, rfl⟩ (fun _ _ _ => rfl) hd
theorem pd_gS {x y : Str} (hg : Gl X x) (hm : ∃ t, X.mg x = some (.str y t)) (hd : (x == ("__debug__" : Str)) = false := by decide) : PE X (.Name x pos) (tD (gx X ea) W (eC (.str y))) := by
  obtain ⟨t, h⟩ := hm
  exact pd_glob (v := .str y) hg h ⟨t, rfl⟩ (fun _ _ _ => rfl) hd
theorem pd_gT {x : Str} {ds : List D} {vs : List V} (hg : Gl X x) (hm : X.mg x = some (.ref (He.ga X.K x))) (hT : ∀ H, SqT X.K H (He.ga X.K x) vs) (hr : ∀ L M H, Reps (gx X ea) L M H ds vs) (hd : (x == ("__debug__" : Str)) = false := by decide) : PE X (.Name x pos) (tD (gx X ea) W (eC (.tup ds))) :=
  pd_glob (v := .ref (He.ga X.K x)) hg hm rfl (fun L M H => ⟨_, vs, rfl, hT H, hr L M H⟩) hd
end
/-! defs as bundles -/
/-- a def that answers by m -/
structure CallD (P : Program) (w : World) (K : PySem.W.Frag) (mg : Str → Option Value) (base : Heap) (x : Str) (k np : Nat) (m : FM) : Prop where
  ex : ∃ (fd : FuncData) (ps : List Str), FnOk P w K mg base (L2N.CX P w) k (He.ga K x) fd ps (spD ⟨K, none⟩ np m) ∧ Binds K fd ps []
  gl : mg x = some (.ref (He.ga K x))
  kp : PySem.W.keepIn K (.ref (He.ga K x)) = true
/-- a def that answers with a new container, by m -/
structure CallF (P : Program) (w : World) (K : PySem.W.Frag) (mg : Str → Option Value) (base : Heap) (x : Str) (k np : Nat) (m : FM) : Prop where
  ex : ∃ (fd : FuncData) (ps : List Str), FnOk P w K mg base (L2N.CX P w) k (He.ga K x) fd ps (spF ⟨K, none⟩ np m) ∧ Binds K fd ps []
  gl : mg x = some (.ref (He.ga K x))
  kp : PySem.W.keepIn K (.ref (He.ga K x)) = true
section
variable {X : Cx} {W : WX} {e : Expr} {es : List Expr} {pos p : Pos} {fa : Env → Sto → Res (List D)} {k kk np : Nat} {x : Str} {m : FM}
theorem pd_cal (C : CallD X.prog X.w X.K X.mg X.base x k np m) (hr : Room kk X.A) (hk : k ≤ kk) (tk : L2N.Takes X W) (hg : Gl X x) (ha : PA X (e :: es) (tDA (gx X none) W fa)) (hn : ∀ ρ μ as μ', fa ρ μ = .ok as μ' → as.length = np)
    (hdb : (x == ("__debug__" : Str)) = false := by decide) (he : starEach (e :: es) X.env = (false, eval e X.env) :: starEach es X.env := by rfl) (hpl : (backTo pos (starEach es X.env)).any (·.1) = false := by rfl) :
    PE X (.Call (.Name x p) (e :: es) [] pos) (tD (gx X none) W (eA m fa)) := by
  obtain ⟨fd, ps, F, B⟩ := C.ex
  have h := pd_call (dfl := []) F (hr.mono hk) tk hg C.gl C.kp B .nil (fun _ _ _ => rfl) ha (fun ρ μ as μ' z => by rw [hn ρ μ as μ' z]; rfl) hdb he hpl (p := p)
  have e : (fun as : List D => m (as ++ [])) = m := by
    funext as
    rw [List.append_nil]
  rw [e] at h
  exact h
theorem pd_calF (C : CallF X.prog X.w X.K X.mg X.base x k np m) (hr : Room kk X.A) (hk : k ≤ kk) (tk : L2N.Takes X W) (hg : Gl X x) (ha : PA X (e :: es) (tDA (gx X none) W fa)) (hn : ∀ ρ μ as μ', fa ρ μ = .ok as μ' → as.length = np)
    (hdb : (x == ("__debug__" : Str)) = false := by decide) (he : starEach (e :: es) X.env = (false, eval e X.env) :: starEach es X.env := by rfl) (hpl : (backTo pos (starEach es X.env)).any (·.1) = false := by rfl) :
    PE X (.Call (.Name x p) (e :: es) [] pos) (tF (gx X none) W (eA m fa)) := by
  obtain ⟨fd, ps, F, B⟩ := C.ex
  have h := pd_callF (dfl := []) F (hr.mono hk) tk hg C.gl C.kp B .nil (fun _ _ _ => rfl) ha (fun ρ μ as μ' z => by rw [hn ρ μ as μ' z]; rfl) hdb he hpl (p := p)
  have e : (fun as : List D => m (as ++ [])) = m := by
    funext as
    rw [List.append_nil]
  rw [e] at h
  exact h
end
section
variable {P : Program} {w : World} {K : PySem.W.Frag} {mg : Str → Option Value} {base : Heap} {x qual : Str} {params : Arguments} {body : List Stmt} {scope : Scope} {fd : FuncData} {N ps : List Str} {k np : Nat} {g : FS}
/-- what a body may lean on -/
abbrev BodyOk (P : Program) (w : World) (K : PySem.W.Frag) (mg : Str → Option Value) (base : Heap) (N : List Str) (qual : Str) (scope : Scope) (f : Addr) (body : List Stmt) (k : Nat) (g : FS) : Prop :=
  ∀ (cdv : Value) (A : Around) (outer : List PySem.Env) (s : Shared) (H : Hp) (E : XK), Room k (A.deeper (envOfC qual scope s.heap.objs.size f cdv)) → L2N.Takes (cxOf (L2N.CX P w) P w K mg base N qual scope f cdv A outer s H E) (fun cls d _ H => E cls d H) →
    PassesOwn (model P w) (cxOf (L2N.CX P w) P w K mg base N qual scope f cdv A outer s H E).A (cxOf (L2N.CX P w) P w K mg base N qual scope f cdv A outer s H E).env (cxOf (L2N.CX P w) P w K mg base N qual scope f cdv A outer s H E).xe →
    PSs (cxOf (L2N.CX P w) P w K mg base N qual scope f cdv A outer s H E) body (tS ⟨K, none⟩ (fun cls d _ H => E cls d H) g)
theorem mkD (F : FunD K x qual params body scope [] [] (He.ga K x) fd) (S : FnScope N ps scope) (gl : mg x = some (.ref (He.ga K x)))
    (h : ∀ (kV doc pm : Value) (an : Option Addr) (cdv ct : Value) (us : List Value), us.length = ps.length → bindArgs (PySem.W.fnOf x qual params body scope .none kV doc pm an cdv ct) ⟨us, []⟩ = pure (ps.zip us))
    (hb : BodyOk P w K mg base N qual scope (He.ga K x) body k g) : CallD P w K mg base x (k + 1) ps.length (run N.length g) :=
  ⟨⟨fd, ps, fn_d F S fun cdv A outer s H E hr => hb cdv A outer s H E hr (L2N.takes_of rfl rfl rfl rfl) (passes_of rfl), F.bindsN h⟩, gl, F.kp⟩
theorem mkF (F : FunD K x qual params body scope [] [] (He.ga K x) fd) (S : FnScope N ps scope) (gl : mg x = some (.ref (He.ga K x)))
    (h : ∀ (kV doc pm : Value) (an : Option Addr) (cdv ct : Value) (us : List Value), us.length = ps.length → bindArgs (PySem.W.fnOf x qual params body scope .none kV doc pm an cdv ct) ⟨us, []⟩ = pure (ps.zip us))
    (hb : BodyOk P w K mg base N qual scope (He.ga K x) body k g) : CallF P w K mg base x (k + 1) ps.length (runF N.length g) :=
  ⟨⟨fd, ps, fn_f F S fun cdv A outer s H E hr => hb cdv A outer s H E hr (L2N.takes_of rfl rfl rfl rfl) (passes_of rfl), F.bindsN h⟩, gl, F.kp⟩
/-- the law's own def at the top: no guard is under way -/
theorem mkC {f : Addr} (F : FunD K x qual params body scope [] [] f fd) (S : FnScope N ps scope) (hr : Room (k + 1) callerA)
    (hb : ∀ (cdv : Value) (outer : List PySem.Env) (s : Shared) (H : Hp) (E : XK), Room k (callerA.deeper (envOfC qual scope s.heap.objs.size f cdv)) → (callerA.deeper (envOfC qual scope s.heap.objs.size f cdv)).guards = some [] →
      L2N.Takes (cxOf (L2N.CX P w) P w K mg base N qual scope f cdv callerA outer s H E) (fun cls d _ H => E cls d H) →
      PassesOwn (model P w) (cxOf (L2N.CX P w) P w K mg base N qual scope f cdv callerA outer s H E).A (cxOf (L2N.CX P w) P w K mg base N qual scope f cdv callerA outer s H E).env (cxOf (L2N.CX P w) P w K mg base N qual scope f cdv callerA outer s H E).xe →
      PSs (cxOf (L2N.CX P w) P w K mg base N qual scope f cdv callerA outer s H E) body (tS ⟨K, none⟩ (fun cls d _ H => E cls d H) g)) :
    FnC callerA P w K mg base (L2N.CX P w) f fd ps (spD ⟨K, none⟩ ps.length (run N.length g)) :=
  fnC_of F S (fun vs H Q E h => h.1) hr fun cdv outer s H vs Q E hr' h => ⟨_, hb cdv outer s H E hr' rfl (L2N.takes_of rfl rfl rfl rfl) (passes_of rfl), start_d h⟩
/-- the plain law gives the promise's premise -/
theorem law_sp {n : Nat} {m : FM} (hm : ∀ ns : List Int, ns.length ≤ n → ∃ μ', m [.frl (ns.map D.int)] [] = .ok (.bl true) μ') (H : Hp) (a : Addr) (ns : List Int) (hl : ns.length ≤ n) (hO : Only H) (hS : SqL K H a (ns.map V.int)) :
    spD ⟨K, none⟩ 1 m [.ref a] H (fun v _ => v = .bl true) fun _ _ _ => False := by
  refine ⟨rfl, fun _ => False, [], [], [.frl (ns.map D.int)], ⟨rfl, List.nodup_nil, fun a h => (nomatch h), fun a h => h.elim, fun n d h => by simp at h⟩, ⟨_, _, rfl, ⟨a, ns.map V.int, rfl, ?_, reps_ints ns⟩, rfl⟩, ?_⟩
  · rcases hS with (h | h) | h
    · rcases hO a with z | ⟨o, xs, z⟩
      · rw [z] at h; cases h
      · rw [z] at h; cases h
    · exact .inl h
    · exact .inr h
  · obtain ⟨μ', e⟩ := hm ns hl
    rw [e]
    exact fun v L' H' s' c r => r
theorem noEx (H : Hp) (s : Shared) (e : Value) (s' : Shared) : L2N.CX P w [] H s (fun _ _ _ => False) e s' → False := fun ⟨_, _, _, _, _, _, _, _, _, _, _, _, z⟩ => z
end
end DL
end

section
set_option Elab.async false
set_option linter.all false
set_option autoImplicit false
set_option maxRecDepth 100000
set_option maxHeartbeats 1000000
namespace DL
open PySem PySem.Spec PyProof.Rows L2
/-! facts of the written part, as Booleans -/
def eqV2 (a b : Option (Option Value)) : Bool := decide (a = b)
def excB (K : PySem.W.Frag) (c : Str) : Bool :=
  decide (PySem.W.findIn K (.ref (He.ga K c)) "__getattribute__" = some (some (.builtin "BaseException.__getattribute__"))) && (decide (PySem.W.findIn K (.ref (He.ga K c)) "__getattr__" = some none) &&
  (decide (PySem.W.subIn K (.ref (He.ga K c)) (.type "BaseException") = some true) && (PySem.W.hasDictIn K (He.ga K c) && (decide (PySem.W.findIn K (.ref (He.ga K c)) "__class__" = some (some (.builtin "object.__class__"))) &&
  (decide (PySem.W.specialIn K (.builtin "object.__class__") "__get__" = some (some (.builtin "getset_descriptor.__get__"))) && (decide (PySem.W.takesIn K (.builtin "object.__class__") = some true) && decide (PySem.W.mroIn K (He.ga K c) (.type "object") = some true)))))))
theorem excB_ok {K : PySem.W.Frag} {c : Str} (h : excB K c = true) : ExcC K (He.ga K c) := by
  simp only [excB, Bool.and_eq_true, decide_eq_true_eq] at h
  obtain ⟨h1, h2, h3, h4, h5, h6, h7, h8⟩ := h
  exact ⟨h1, h2, h3, h4, h5, h6, h7, h8⟩
/-- rows: an exception's class, a class (own or built in), is it a kind of that -/
abbrev KRow := String × String × Bool × Bool
def kTo (K : PySem.W.Frag) (r : KRow) : Value := if r.2.2.1 then .ref (He.ga K (Str.ofString r.2.1)) else .type r.2.1
def tbK (l : List KRow) : Kinds := fun a b => match a with
  | .cls c => (match b with
    | .cls t => (l.find? fun r => decide (Str.ofString r.1 = c) && (decide (Str.ofString r.2.1 = t) && r.2.2.1)).map fun r => r.2.2.2
    | .ty t => (l.find? fun r => decide (Str.ofString r.1 = c) && (decide (r.2.1 = t) && !r.2.2.1)).map fun r => r.2.2.2
    | _ => none)
  | _ => none
def rowsB (K : PySem.W.Frag) (l : List KRow) : Bool := l.all fun r => excB K (Str.ofString r.1) && decide (PySem.W.kitOne K (.ref (He.ga K (Str.ofString r.1))) (kTo K r) = some r.2.2.2)
theorem kindsE_of {K : PySem.W.Frag} {l : List KRow} (h : rowsB K l = true) : KindsE K (tbK l) := fun c t b e => by
  cases t with
  | cls t =>
    have e' : (l.find? fun r => decide (Str.ofString r.1 = c) && (decide (Str.ofString r.2.1 = t) && r.2.2.1)).map (fun r => r.2.2.2) = some b := e
    cases z : l.find? fun r => decide (Str.ofString r.1 = c) && (decide (Str.ofString r.2.1 = t) && r.2.2.1) with
    | none => rw [z] at e'; cases e'
    | some r =>
      rw [z] at e'
      cases e'
      have hr := List.find?_some z
      simp only [Bool.and_eq_true, decide_eq_true_eq] at hr
      have hm := List.all_eq_true.mp h r (List.mem_of_find?_eq_some z)
      rw [Bool.and_eq_true, decide_eq_true_eq] at hm
      obtain ⟨h1, h2, h3⟩ := hr
      rw [h1] at hm
      refine ⟨excB_ok hm.1, ?_⟩
      have := hm.2
      unfold kTo at this
      rw [if_pos h3, h2] at this
      exact this
  | ty t =>
    have e' : (l.find? fun r => decide (Str.ofString r.1 = c) && (decide (r.2.1 = t) && !r.2.2.1)).map (fun r => r.2.2.2) = some b := e
    cases z : l.find? fun r => decide (Str.ofString r.1 = c) && (decide (r.2.1 = t) && !r.2.2.1) with
    | none => rw [z] at e'; cases e'
    | some r =>
      rw [z] at e'
      cases e'
      have hr := List.find?_some z
      simp only [Bool.and_eq_true, decide_eq_true_eq] at hr
      have hm := List.all_eq_true.mp h r (List.mem_of_find?_eq_some z)
      rw [Bool.and_eq_true, decide_eq_true_eq] at hm
      obtain ⟨h1, h2, h3⟩ := hr
      rw [h1] at hm
      refine ⟨excB_ok hm.1, ?_⟩
      have := hm.2
      unfold kTo at this
      rw [if_neg (by intro y; rw [y] at h3; cases h3), h2] at this
      exact this
  | _ => cases e
def noK : Kinds := fun _ _ => none
theorem noK_ok {K : PySem.W.Frag} : KindsOk K noK := fun _ _ _ _ e => nomatch e
/-- which of the classes an except clause of cls takes -/
def exmB (K : PySem.W.Frag) (cls : Str) (l : List (String × Bool)) : Bool := l.all fun r => decide (PySem.W.exmOne K (.ref (He.ga K (Str.ofString r.1))) (.ref (He.ga K cls)) = some r.2)
def subOf (l : List (String × Bool)) : Str → Bool := fun c => match l.find? fun r => decide (Str.ofString r.1 = c) with
  | some r => r.2
  | none => false
theorem exm_of {K : PySem.W.Frag} {cls : Str} {l : List (String × Bool)} (h : exmB K cls l = true) {c : Str} (hc : (l.any fun r => decide (Str.ofString r.1 = c)) = true) : PySem.W.exmOne K (.ref (He.ga K c)) (.ref (He.ga K cls)) = some (subOf l c) := by
  unfold subOf
  cases z : l.find? fun r => decide (Str.ofString r.1 = c) with
  | none =>
    rw [List.any_eq_true] at hc
    obtain ⟨r, hm, hr⟩ := hc
    have := List.find?_eq_none.mp z r hm
    exact absurd hr this
  | some r =>
    have hr0 := List.find?_some z
    have hr : Str.ofString r.1 = c := of_decide_eq_true hr0
    have hm := of_decide_eq_true (List.all_eq_true.mp h r (List.mem_of_find?_eq_some z))
    rw [hr] at hm
    exact hm
section
variable {X : Cx} {ea : Option (Addr × Option Addr)} {W : WX} {a b e : Expr} {f g : FD} {pos p : Pos} {fa : Env → Sto → Res (List D)} {k : Nat}
theorem pd_is0 {es : List Expr} (hgl : Gl X "isinstance") (hm : X.mg "isinstance" = none) (ha : PA X (e :: es) (tDA (gx X ea) W fa)) (he : starEach (e :: es) X.env = (false, eval e X.env) :: starEach es X.env := by rfl) (hpl : (backTo pos (starEach es X.env)).any (·.1) = false := by rfl) : PE X (.Call (.Name "isinstance" p) (e :: es) [] pos) (tD (gx X ea) W (eA (oIs noK) fa)) := pd_is (fun _ => .inr fun _ => rfl) noK_ok hgl hm ha he hpl
theorem pd_raise0 {x : Str} (hc : X.calm = true) (tk : L2N.Takes X W) (F : (He.Fa.exc x).ok X.K = true) (gC : X.mg x = some (.ref (He.ga X.K x))) (hg : Gl X x) (hdb : (x == ("__debug__" : Str)) = false := by decide) :
    PS X (.Raise (some (.Call (.Name x p) [] [] pos)) none pos) (tS (gx X none) W (sRaise ⟨x, none⟩)) := by
  obtain ⟨h1, h2, h3, h4⟩ := He.exc_ok F
  exact sd_raise hc tk (pmk_own0 PySem.F.excBase_ValueError h1 gC h2 (raises_own h3 h4) hg hdb)
theorem pd_raise0' {x : Str} {pos2 : Pos} (hc : X.calm = true) (tk : L2N.Takes X W) (F : (He.Fa.exc x).ok X.K = true) (gC : X.mg x = some (.ref (He.ga X.K x))) (hg : Gl X x) (hdb : (x == ("__debug__" : Str)) = false := by decide) :
    PS X (.Raise (some (.Call (.Name x p) [] [] pos)) none pos2) (tS (gx X none) W (sRaise ⟨x, none⟩)) := by
  obtain ⟨h1, h2, h3, h4⟩ := He.exc_ok F
  exact sd_raise hc tk (pmk_own0 PySem.F.excBase_ValueError h1 gC h2 (raises_own h3 h4) hg hdb)
end
/-- one class, in the suite -/
theorem pd_isE1 {X : Cx} {W : WX} {x : Expr} {es : List Expr} {p pos : Pos} {fa : Env → Sto → Res (List D)} {tb : Kinds} {c : Str} {a : Addr} {d : Option Addr} {oe : Obj} {pn : List (Addr × Obj)} (hz : L2N.Zn (.ref (He.ga X.K c)) d oe) (hf : ∃ vs, oe.data = .fields vs) (hk : KindsE X.K tb) (hg : Gl (X.suite a ((a, oe) :: pn)) "isinstance") (hm : X.mg "isinstance" = none)
    (ha : PA (X.suite a ((a, oe) :: pn)) (x :: es) (tDA (gx X (some (a, d))) W fa)) (he : starEach (x :: es) X.env = (false, eval x X.env) :: starEach es X.env := by rfl) (hpl : (backTo pos (starEach es X.env)).any (·.1) = false := by rfl) :
    PE (X.suite a ((a, oe) :: pn)) (.Call (.Name "isinstance" p) (x :: es) [] pos) (tD (gx X (some (a, d))) W (eA (oIsE tb c) fa)) := pd_callB (X := X.suite a ((a, oe) :: pn)) (ea := some (a, d)) (call_isD hz hf) (cg_isE hk) hg hm (by decide +kernel) ha (by decide) (by decide) he hpl
theorem pd_sumBH {X : Cx} {W : WX} {x : Expr} {es : List Expr} {p pos : Pos} {fa : Env → Sto → Res (List D)} {c : Value} {a : Addr} {d : Option Addr} {oe : Obj} {pn : List (Addr × Obj)} (hz : L2N.Zn c d oe) (hf : ∃ vs, oe.data = .fields vs) (hg : Gl (X.suite a ((a, oe) :: pn)) "sum") (hm : X.mg "sum" = none)
    (ha : PA (X.suite a ((a, oe) :: pn)) (x :: es) (tDA (gx X (some (a, d))) W fa)) (he : starEach (x :: es) X.env = (false, eval x X.env) :: starEach es X.env := by rfl) (hpl : (backTo pos (starEach es X.env)).any (·.1) = false := by rfl) :
    PE (X.suite a ((a, oe) :: pn)) (.Call (.Name "sum" p) (x :: es) [] pos) (tD (gx X (some (a, d))) W (eA oSumB fa)) := pd_callB (X := X.suite a ((a, oe) :: pn)) (ea := some (a, d)) (call_sumBH hz.2.2 hf) cg_sumB hg hm (by decide +kernel) ha (by decide) (by decide) he hpl
end DL
end

section
set_option Elab.async false
set_option linter.all false
set_option autoImplicit false
set_option maxRecDepth 100000
set_option maxHeartbeats 1000000
namespace DL
open PySem PySem.Spec PyProof.Rows L2
abbrev oTupN : List D → Sto → Res D := fun ds μ => if ds.length ≤ 1000 then .ok (.tup ds) μ else .bad
abbrev oLstN : List D → Sto → Res D := fun ds μ => if ds.length ≤ 1000 then .ok (.lst ds) μ else .bad
/-- only the table's classes are let through -/
def sKnow (l : List (String × Bool)) (g : FS) : FS := fun ρ μ => match g ρ μ with
  | .ex y ρ' μ' => if (l.any fun r => decide (Str.ofString r.1 = y.c)) = true then .ex y ρ' μ' else .bad
  | o => o
theorem know_imp {K : Gx} {W : WX} {l : List (String × Bool)} {g : FS} (E : Ends) (σ : L2.St) (H : Hp) (h : tS K W (sKnow l g) E σ H) : tS K W g E σ H := by
  obtain ⟨M0, L, μ, ρ, gd, q⟩ := h
  refine ⟨M0, L, μ, ρ, gd, ?_⟩
  unfold sKnow at q
  cases z : g ρ μ with
  | ex y ρ' μ' =>
    rw [z] at q
    by_cases k : (l.any fun r => decide (Str.ofString r.1 = y.c)) = true
    · simp only [k] at q
      exact q
    · have k' : (l.any fun r => decide (Str.ofString r.1 = y.c)) = false := Bool.eq_false_iff.mpr k
      simp only [k'] at q
      exact q.elim
  | _ => rw [z] at q; exact q
/-- try: .. except C as n: .., by the table of C -/
theorem sd_tryK {X : Cx} {W : WX} {x n : Str} {i : Nat} {body suite : List Stmt} {b₀ : Stmt} {np pos pos' : Pos} {g : FS} {h : Ex → FS} {l : List (String × Bool)} (hs : X.stack = X.env :: X.outer) (hf : X.env.frame = some X.env.locals) (hN : X.N.Nodup) (hi : X.N[i]? = some n) (hln : X.env.kindOf n = some .local)
    (hg : Gl X x) (hd : (x == ("__debug__" : Str)) = false) (hm : X.mg x = some (.ref (He.ga X.K x))) (ht : exmB X.K x l = true) (tk : L2N.Takes X W)
    (hb : ∀ (W' : WX) (pn : List (Addr × Obj)) (xe : Value → Shared → Prop), L2N.Takes (X.tr pn xe) W' → PassesOwn (model X.prog X.w) X.A X.env xe → PSs (X.tr pn xe) body (tS (gx X none) W' g))
    (hsu : ∀ (a : Addr) (oe : Obj) (y : Ex) (d : Option Addr) (pn : List (Addr × Obj)), L2N.Zn (.ref (He.ga X.K y.c)) d oe → (∃ vs, oe.data = .fields vs) → (y.fs = none ↔ d = none) → PSs (X.suite a ((a, oe) :: pn)) (b₀ :: suite) (tS (gx X (some (a, d))) W0 (h y))) :
    PS X (.Try body [.ExceptHandler (some (.Name x np)) (some n) (b₀ :: suite) pos'] [] [] pos) (tS (gx X none) W (sTry (sKnow l g) (subOf l) i h)) :=
  sd_try hs hf hN hi hln ⟨hg, hd, .inl hm⟩ tk (fun y ρ μ ρ' μ' z => by
    refine exm_of ht ?_
    unfold sKnow at z
    cases q : g ρ μ with
    | ex y' ρ2 μ2 =>
      rw [q] at z
      by_cases k : (l.any fun r => decide (Str.ofString r.1 = y'.c)) = true
      · simp only [k] at z
        cases z
        exact k
      · have k' : (l.any fun r => decide (Str.ofString r.1 = y'.c)) = false := Bool.eq_false_iff.mpr k
        simp only [k'] at z
        cases z
    | _ => rw [q] at z; cases z) (fun W' pn xe t p => pssI (hb W' pn xe t p) fun E σ H z => know_imp E σ H z) hsu
section
variable {X : Cx} {ea : Option (Addr × Option Addr)} {W : WX} {a b e : Expr} {f g : FD} {pos p : Pos} {k : Nat}
theorem su64 {a : Addr} {pn : List (Addr × Obj)} (hr : Room k X.A) : (X.suite a pn).A.units + 64 < cLine := by
  have := hr.un
  show X.A.units + 64 < cLine
  omega
theorem pd_eqU (hu : X.A.units + 64 < cLine) (ha : PE X a (tD (gx X ea) W f)) (hb : PE X b (tD (gx X ea) W g)) : PE X (.Compare a [.Eq] [b] pos) (tD (gx X ea) W (e2 (oEq false) f g)) := pd_cmp (op_eqE hu) og_eq ha hb (nomark _)
theorem pd_neU (hu : X.A.units + 64 < cLine) (ha : PE X a (tD (gx X ea) W f)) (hb : PE X b (tD (gx X ea) W g)) : PE X (.Compare a [.NotEq] [b] pos) (tD (gx X ea) W (e2 (oEq true) f g)) := pd_cmp (op_neE hu) og_ne ha hb (nomark _)
theorem td_eqU (hu : X.A.units + 64 < cLine) (ha : PE X a (tD (gx X ea) W f)) (hb : PE X b (tD (gx X ea) W g)) : PT X (.Compare a [.Eq] [b] pos) (tDT (gx X ea) W (tB (e2 (oEq false) f g))) := td_cmp (op_eqE hu) og_eq ha hb (nomark _)
theorem td_neU (hu : X.A.units + 64 < cLine) (ha : PE X a (tD (gx X ea) W f)) (hb : PE X b (tD (gx X ea) W g)) : PT X (.Compare a [.NotEq] [b] pos) (tDT (gx X ea) W (tB (e2 (oEq true) f g))) := td_cmp (op_neE hu) og_ne ha hb (nomark _)
end
end DL
end

section
set_option Elab.async false
set_option linter.all false
set_option autoImplicit false
set_option maxRecDepth 100000
set_option maxHeartbeats 1000000
namespace DL
open PySem PySem.Spec PyProof.Rows L2
/-! plain tools: what functions answer -/
theorem kept_self (μ : Sto) : Kept μ.length μ μ := ⟨Nat.le_refl _, fun _ _ => .inl rfl⟩
theorem fin_ok {μ : Sto} {d : D} (h : lab d ≤ μ.length) : fin lab μ d μ = .ok d μ := by
  unfold fin
  rw [if_pos ⟨h, kept_self μ⟩, List.take_length]
theorem run_rt {n : Nat} {g : FS} {ds : List D} {μ : Sto} {d : D} (h : g (ds.map some ++ List.replicate (n - ds.length) none) μ = .rt d μ) (hl : lab d ≤ μ.length) : run n g ds μ = .ok d μ := by
  unfold run
  rw [h]
  exact fin_ok hl
theorem run_ex {n : Nat} {g : FS} {ds : List D} {μ : Sto} {c : Str} {ρ : Env} (h : g (ds.map some ++ List.replicate (n - ds.length) none) μ = .ex ⟨c, none⟩ ρ μ) : run n g ds μ = .ex ⟨c, none⟩ μ := by
  unfold run
  rw [h]
  show finx μ ⟨c, none⟩ μ = _
  unfold finx labx
  rw [if_pos ⟨Nat.zero_le _, kept_self μ⟩, List.take_length]
theorem run_rt' {n : Nat} {g : FS} {ds : List D} {μ μ' : Sto} {d : D} (h : g (ds.map some ++ List.replicate (n - ds.length) none) μ = .rt d μ') (hl : lab d ≤ μ.length) (hk : Kept μ.length μ μ') : run n g ds μ = .ok d (μ'.take μ.length) := by
  unfold run
  rw [h]
  show fin lab μ d μ' = _
  unfold fin
  rw [if_pos ⟨hl, hk⟩]
theorem runF_rt {n m : Nat} {g : FS} {ds : List D} {μ μ' : Sto} {d : D} (h : g (ds.map some ++ List.replicate (n - ds.length) none) μ = .rt (.own m) μ') (hm : μ'[m]? = some (some d)) (hl : lab d ≤ μ.length) (hge : μ.length ≤ m) (hk : Kept μ.length μ μ') : runF n g ds μ = .ok d (μ'.take μ.length) := by
  unfold runF
  rw [h]
  simp only [hm]
  rw [if_pos ⟨hge, hl, hk⟩]
theorem kept_app (μ t : Sto) : Kept μ.length μ (μ ++ t) := ⟨by simp, fun m hm => .inl (List.getElem?_append_left hm)⟩
theorem take_app (μ t : Sto) : (μ ++ t).take μ.length = μ := by simp
/-! comprehensions that leave the store as it is -/
theorem lc_filter {tg : Tg} {vs : List Nat} {tt : Env → Sto → Res Bool} {te : FD} {kp : Kp} {ρ : Env} {μ : Sto} {F : D → D} {p : D → Bool} : ∀ {ds acc : List D}, (∀ d ∈ ds, ∃ ρ1, tg d (wipeE ρ vs) μ = some ρ1 ∧ tt ρ1 μ = .ok (p d) μ ∧ (p d = true → te ρ1 μ = .ok (F d) μ)) → kpOk kp μ → acc.length + ds.length ≤ 16777216 → lcL tg vs tt te kp ρ ds μ acc = .ok (.lst (acc ++ (ds.filter p).map F)) μ
  | [], acc, _, _, _ => by simp [lcL]
  | d :: ds, acc, h, hk, hl => by
    obtain ⟨ρ1, e1, e2, e3⟩ := h d List.mem_cons_self
    rw [List.length_cons] at hl
    unfold lcL
    rw [e1]
    simp only
    rw [e2]
    simp only
    cases z : p d with
    | true =>
      simp only [if_true]
      rw [e3 z]
      simp only
      rw [if_pos ⟨hk, by omega⟩, lc_filter (acc := acc ++ [F d]) (fun x hx => h x (List.mem_cons_of_mem _ hx)) hk (by rw [List.length_append]; simp; omega), List.filter_cons, if_pos z, List.map_cons, List.append_assoc]
      rfl
    | false =>
      simp only [Bool.false_eq_true, if_false]
      rw [if_pos hk, lc_filter (acc := acc) (fun x hx => h x (List.mem_cons_of_mem _ hx)) hk (by omega), List.filter_cons, if_neg (by rw [z]; simp)]
theorem lc_pure {tg : Tg} {vs : List Nat} {te : FD} {kp : Kp} {ρ : Env} {μ : Sto} {F : D → D} {ds acc : List D} (h : ∀ d ∈ ds, ∃ ρ1, tg d (wipeE ρ vs) μ = some ρ1 ∧ te ρ1 μ = .ok (F d) μ) (hk : kpOk kp μ) (hl : acc.length + ds.length ≤ 16777216) : lcL tg vs tTrue te kp ρ ds μ acc = .ok (.lst (acc ++ ds.map F)) μ := by
  have e := lc_filter (tt := tTrue) (p := fun _ => true) (fun d hd => let ⟨ρ1, e1, e2⟩ := h d hd; ⟨ρ1, e1, rfl, fun _ => e2⟩) hk hl
  rw [e]
  congr 3
  rw [List.filter_eq_self.mpr (fun _ _ => rfl)]
/-- a loop that walks on over its items -/
theorem for_inv {tg : Tg} {g : FS} {kp : Kp} (I : Nat → Env → Sto → Prop) : ∀ (ds : List D) (k : Nat) (ρ : Env) (μ : Sto), I k ρ μ → (∀ (i : Nat) (d : D) (ρ : Env) (μ : Sto), ds[i]? = some d → I (k + i) ρ μ → ∃ ρ1 ρ2 μ2, tg d ρ μ = some ρ1 ∧ g ρ1 μ = .nx ρ2 μ2 ∧ kpOk kp μ2 ∧ I (k + i + 1) ρ2 μ2) →
    ∃ ρ' μ', forL tg g kp ds ρ μ = .nx ρ' μ' ∧ I (k + ds.length) ρ' μ'
  | [], k, ρ, μ, h0, _ => ⟨ρ, μ, rfl, h0⟩
  | d :: ds, k, ρ, μ, h0, h => by
    obtain ⟨ρ1, ρ2, μ2, e1, e2, e3, h1⟩ := h 0 d ρ μ rfl h0
    obtain ⟨ρ', μ', e4, h4⟩ := for_inv I ds (k + 1) ρ2 μ2 h1 fun i x ρ μ e hi => by
      have := h (i + 1) x ρ μ (by simpa using e) (by rw [show k + (i + 1) = k + 1 + i by omega]; exact hi)
      rw [show k + (i + 1) + 1 = k + 1 + i + 1 by omega] at this
      exact this
    refine ⟨ρ', μ', ?_, ?_⟩
    · unfold forL
      rw [e1]
      simp only
      rw [e2]
      simp only
      rw [if_pos e3]
      exact e4
    · rw [List.length_cons, show k + (ds.length + 1) = k + 1 + ds.length by omega]
      exact h4
/-- the same, while the store stays -/
theorem for_pure {tg : Tg} {g : FS} {μ : Sto} (I : Nat → Env → Prop) (ds : List D) (kp : Kp) (hk : kpOk kp μ) (ρ : Env) (h0 : I 0 ρ) (h : ∀ (i : Nat) (d : D) (ρ : Env), ds[i]? = some d → I i ρ → ∃ ρ1 ρ2, tg d ρ μ = some ρ1 ∧ g ρ1 μ = .nx ρ2 μ ∧ I (i + 1) ρ2) :
    ∃ ρ', forL tg g kp ds ρ μ = .nx ρ' μ ∧ I ds.length ρ' := by
  obtain ⟨ρ', μ', e, h1, h2⟩ := for_inv (tg := tg) (g := g) (kp := kp) (fun i ρ m => m = μ ∧ I i ρ) ds 0 ρ μ ⟨rfl, h0⟩ fun i d ρ m e ⟨hm, hi⟩ => by
    subst hm
    rw [Nat.zero_add] at hi
    obtain ⟨ρ1, ρ2, e1, e2, h3⟩ := h i d ρ e hi
    exact ⟨ρ1, ρ2, m, e1, e2, hk, rfl, by rw [Nat.zero_add]; exact h3⟩
  subst h1
  rw [Nat.zero_add] at h2
  exact ⟨ρ', e, h2⟩
/-! small readings -/
theorem atI_nat {l : List D} {i : Nat} {d : D} (h : l[i]? = some d) : atI l (i : Int) = some d := by
  have hl := (List.getElem?_eq_some_iff.mp h).1
  unfold atI ixN
  rw [if_pos (by omega), if_pos (by omega)]
  simpa using h
theorem lc1 {fi : FI} {i : Nat} {te : FD} {ρ : Env} {μ : Sto} {ds : List D} {kp : Kp} {F : D → D} (hfi : fi ρ μ = .ok (ds, kp) μ) (hk : kpOk kp μ) (hl : ds.length ≤ 16777216) (h : ∀ d ∈ ds, te ((wipeE ρ [i]).set i (some d)) μ = .ok (F d) μ) : eLc fi (gN i) [i] tTrue te ρ μ = .ok (.lst (ds.map F)) μ := by
  unfold eLc
  rw [hfi]
  have := lc_pure (tg := gN i) (vs := [i]) (te := te) (kp := kp) (ρ := ρ) (μ := μ) (F := F) (ds := ds) (acc := []) (fun d hd => ⟨_, rfl, h d hd⟩) hk (by simpa using hl)
  simpa [Res.bind] using this
/-- over pairs, with a test -/
theorem lc2 {fi : FI} {i j : Nat} {tt : Env → Sto → Res Bool} {te : FD} {ρ : Env} {μ : Sto} {ds : List (D × D)} {kp : Kp} {F : D × D → D} {p : D × D → Bool} (hfi : fi ρ μ = .ok (ds.map fun q => .tup [q.1, q.2], kp) μ) (hk : kpOk kp μ) (hl : ds.length ≤ 16777216)
    (h : ∀ q ∈ ds, tt (((wipeE ρ [i, j]).set i (some q.1)).set j (some q.2)) μ = .ok (p q) μ ∧ (p q = true → te (((wipeE ρ [i, j]).set i (some q.1)).set j (some q.2)) μ = .ok (F q) μ)) : eLc fi (gT [gN i, gN j]) [i, j] tt te ρ μ = .ok (.lst ((ds.filter p).map F)) μ := by
  unfold eLc
  rw [hfi]
  have key : ∀ (ds : List (D × D)) (acc : List D), (∀ q ∈ ds, tt (((wipeE ρ [i, j]).set i (some q.1)).set j (some q.2)) μ = .ok (p q) μ ∧ (p q = true → te (((wipeE ρ [i, j]).set i (some q.1)).set j (some q.2)) μ = .ok (F q) μ)) → acc.length + ds.length ≤ 16777216 →
      lcL (gT [gN i, gN j]) [i, j] tt te kp ρ (ds.map fun q => .tup [q.1, q.2]) μ acc = .ok (.lst (acc ++ (ds.filter p).map F)) μ := by
    intro ds
    induction ds with
    | nil => intro acc _ _; simp [lcL]
    | cons q ds ih =>
      intro acc hh hl
      obtain ⟨e1, e2⟩ := hh q List.mem_cons_self
      rw [List.length_cons] at hl
      rw [List.map_cons]
      unfold lcL
      have et : gT [gN i, gN j] (.tup [q.1, q.2]) (wipeE ρ [i, j]) μ = some (((wipeE ρ [i, j]).set i (some q.1)).set j (some q.2)) := rfl
      rw [et]
      simp only
      rw [e1]
      simp only
      cases z : p q with
      | true =>
        simp only [if_true]
        rw [e2 z]
        simp only
        rw [if_pos ⟨hk, by omega⟩, ih (acc ++ [F q]) (fun x hx => hh x (List.mem_cons_of_mem _ hx)) (by rw [List.length_append]; simp; omega), List.filter_cons, if_pos z, List.map_cons, List.append_assoc]
        rfl
      | false =>
        simp only [Bool.false_eq_true, if_false]
        rw [if_pos hk, ih acc (fun x hx => hh x (List.mem_cons_of_mem _ hx)) (by omega), List.filter_cons, if_neg (by rw [z]; simp)]
  have := key ds [] h (by simpa using hl)
  simpa [Res.bind] using this
theorem seq_nx {g h : FS} {ρ ρ1 : Env} {μ μ1 : Sto} (e : g ρ μ = .nx ρ1 μ1) : sSeq g h ρ μ = h ρ1 μ1 := by
  unfold sSeq
  rw [e]
theorem seq_rt {g h : FS} {ρ : Env} {μ μ1 : Sto} {d : D} (e : g ρ μ = .rt d μ1) : sSeq g h ρ μ = .rt d μ1 := by
  unfold sSeq
  rw [e]
theorem seq_ex {g h : FS} {ρ ρ1 : Env} {μ μ1 : Sto} {x : Ex} (e : g ρ μ = .ex x ρ1 μ1) : sSeq g h ρ μ = .ex x ρ1 μ1 := by
  unfold sSeq
  rw [e]
theorem for_eq {fi : FI} {tg : Tg} {g : FS} {ρ : Env} {μ μ1 : Sto} {ds : List D} {kp : Kp} (e : fi ρ μ = .ok (ds, kp) μ1) : sFor fi tg g ρ μ = forL tg g kp ds ρ μ1 := by
  unfold sFor
  rw [e]
  rfl
theorem e2_ok {op : D → D → Sto → Res D} {f g : FD} {ρ : Env} {μ μ1 μ2 : Sto} {d e : D} (h1 : f ρ μ = .ok d μ1) (h2 : g ρ μ1 = .ok e μ2) : e2 op f g ρ μ = op d e μ2 := by
  unfold e2
  rw [h1]
  show (g ρ μ1).bind _ = _
  rw [h2]
  rfl
theorem ret_ok {f : FD} {ρ : Env} {μ μ1 : Sto} {d : D} (h : f ρ μ = .ok d μ1) : sRet f ρ μ = .rt d μ1 := by
  unfold sRet
  rw [h]
  rfl
theorem set_ok {f : FD} {i : Nat} {ρ : Env} {μ μ1 : Sto} {d : D} (h : f ρ μ = .ok d μ1) : sSet i f ρ μ = .nx (ρ.set i (some d)) μ1 := by
  unfold sSet
  rw [h]
  rfl
theorem eA_ok {op : List D → Sto → Res D} {fa : Env → Sto → Res (List D)} {ρ : Env} {μ μ1 : Sto} {ds : List D} (h : fa ρ μ = .ok ds μ1) : eA op fa ρ μ = op ds μ1 := by
  unfold eA
  rw [h]
  rfl
theorem aC_ok {f : FD} {r : Env → Sto → Res (List D)} {ρ : Env} {μ μ1 μ2 : Sto} {d : D} {ds : List D} (h1 : f ρ μ = .ok d μ1) (h2 : r ρ μ1 = .ok ds μ2) : aC f r ρ μ = .ok (d :: ds) μ2 := by
  unfold aC
  rw [h1]
  show (r ρ μ1).bind _ = _
  rw [h2]
  rfl
theorem if_tt {t : Env → Sto → Res Bool} {g h : FS} {ρ : Env} {μ μ1 : Sto} (e : t ρ μ = .ok true μ1) : sIf t g h ρ μ = g ρ μ1 := by
  unfold sIf
  rw [e]
  rfl
theorem if_ff {t : Env → Sto → Res Bool} {g h : FS} {ρ : Env} {μ μ1 : Sto} (e : t ρ μ = .ok false μ1) : sIf t g h ρ μ = h ρ μ1 := by
  unfold sIf
  rw [e]
  rfl
theorem tB_ok {f : FD} {ρ : Env} {μ μ1 : Sto} {b : Bool} (e : f ρ μ = .ok (.bl b) μ1) : tB f ρ μ = .ok b μ1 := by
  unfold tB
  rw [e]
  rfl
end DL
end

section
set_option Elab.async false
set_option linter.all false
set_option autoImplicit false
set_option maxRecDepth 100000
set_option maxHeartbeats 0
namespace Pk59
open PySem PySem.Spec PyProof.Rows L2 DL
abbrev prog : Program := PySem.Challenge.pw_loafshares_k59_scales_refused
def top (i : Nat) : Stmt := prog.main.body.getD i (.Pass ⟨0, 0, 0, 0⟩)
abbrev st_common : Stmt := top 12
def dd_common : He.DefD := ⟨("common", none), "common", "common", defArgs st_common, defBody st_common, defScope st_common, [], []⟩
abbrev st_fraction : Stmt := top 13
def dd_fraction : He.DefD := ⟨("fraction", none), "fraction", "fraction", defArgs st_fraction, defBody st_fraction, defScope st_fraction, [], []⟩
abbrev st_plus : Stmt := top 14
def dd_plus : He.DefD := ⟨("plus", none), "plus", "plus", defArgs st_plus, defBody st_plus, defScope st_plus, [], []⟩
abbrev st_minus : Stmt := top 15
def dd_minus : He.DefD := ⟨("minus", none), "minus", "minus", defArgs st_minus, defBody st_minus, defScope st_minus, [], []⟩
abbrev st_times : Stmt := top 16
def dd_times : He.DefD := ⟨("times", none), "times", "times", defArgs st_times, defBody st_times, defScope st_times, [], []⟩
abbrev st_over : Stmt := top 17
def dd_over : He.DefD := ⟨("over", none), "over", "over", defArgs st_over, defBody st_over, defScope st_over, [], []⟩
abbrev st_is_less : Stmt := top 18
def dd_is_less : He.DefD := ⟨("is_less", none), "is_less", "is_less", defArgs st_is_less, defBody st_is_less, defScope st_is_less, [], []⟩
abbrev st_sum_of : Stmt := top 19
def dd_sum_of : He.DefD := ⟨("sum_of", none), "sum_of", "sum_of", defArgs st_sum_of, defBody st_sum_of, defScope st_sum_of, [], []⟩
abbrev st_is_whole : Stmt := top 20
def dd_is_whole : He.DefD := ⟨("is_whole", none), "is_whole", "is_whole", defArgs st_is_whole, defBody st_is_whole, defScope st_is_whole, [], []⟩
abbrev st_is_fraction : Stmt := top 21
def dd_is_fraction : He.DefD := ⟨("is_fraction", none), "is_fraction", "is_fraction", defArgs st_is_fraction, defBody st_is_fraction, defScope st_is_fraction, [], []⟩
abbrev st_is_weight : Stmt := top 22
def dd_is_weight : He.DefD := ⟨("is_weight", none), "is_weight", "is_weight", defArgs st_is_weight, defBody st_is_weight, defScope st_is_weight, [], []⟩
abbrev st_are_weights : Stmt := top 25
def dd_are_weights : He.DefD := ⟨("are_weights", none), "are_weights", "are_weights", defArgs st_are_weights, defBody st_are_weights, defScope st_are_weights, [], []⟩
abbrev st_floor_of : Stmt := top 26
def dd_floor_of : He.DefD := ⟨("floor_of", none), "floor_of", "floor_of", defArgs st_floor_of, defBody st_floor_of, defScope st_floor_of, [], []⟩
abbrev st_many_of : Stmt := top 27
def dd_many_of : He.DefD := ⟨("many_of", none), "many_of", "many_of", defArgs st_many_of, defBody st_many_of, defScope st_many_of, [], []⟩
abbrev st_aims : Stmt := top 28
def dd_aims : He.DefD := ⟨("aims", none), "aims", "aims", defArgs st_aims, defBody st_aims, defScope st_aims, [], []⟩
abbrev st_rests_of : Stmt := top 29
def dd_rests_of : He.DefD := ⟨("rests_of", none), "rests_of", "rests_of", defArgs st_rests_of, defBody st_rests_of, defScope st_rests_of, [], []⟩
abbrev st_many_up : Stmt := top 30
def dd_many_up : He.DefD := ⟨("many_up", none), "many_up", "many_up", defArgs st_many_up, defBody st_many_up, defScope st_many_up, [], []⟩
abbrev st_greatest_of : Stmt := top 31
def dd_greatest_of : He.DefD := ⟨("greatest_of", none), "greatest_of", "greatest_of", defArgs st_greatest_of, defBody st_greatest_of, defScope st_greatest_of, [], []⟩
abbrev st_places_up : Stmt := top 32
def dd_places_up : He.DefD := ⟨("places_up", none), "places_up", "places_up", defArgs st_places_up, defBody st_places_up, defScope st_places_up, [], []⟩
abbrev st_apart : Stmt := top 33
def dd_apart : He.DefD := ⟨("apart", none), "apart", "apart", defArgs st_apart, defBody st_apart, defScope st_apart, [], []⟩
abbrev st_worst_of : Stmt := top 34
def dd_worst_of : He.DefD := ⟨("worst_of", none), "worst_of", "worst_of", defArgs st_worst_of, defBody st_worst_of, defScope st_worst_of, [], []⟩
abbrev st_rounded : Stmt := top 35
def dd_rounded : He.DefD := ⟨("rounded", none), "rounded", "rounded", defArgs st_rounded, defBody st_rounded, defScope st_rounded, [], []⟩
abbrev st_paper : Stmt := top 36
def dd_paper : He.DefD := ⟨("paper", none), "paper", "paper", defArgs st_paper, defBody st_paper, defScope st_paper, [], []⟩
abbrev st_are_places : Stmt := top 37
def dd_are_places : He.DefD := ⟨("are_places", none), "are_places", "are_places", defArgs st_are_places, defBody st_are_places, defScope st_are_places, [], []⟩
abbrev st_shows : Stmt := top 38
def dd_shows : He.DefD := ⟨("shows", none), "shows", "shows", defArgs st_shows, defBody st_shows, defScope st_shows, [], []⟩
abbrev st_w_cell : Stmt := top 40
def dd_w_cell : He.DefD := ⟨("_law_cell", none), "_law_cell", "_law_cell", defArgs st_w_cell, defBody st_w_cell, defScope st_w_cell, [], []⟩
abbrev st_w_pot : Stmt := top 41
def dd_w_pot : He.DefD := ⟨("_law_pot", none), "_law_pot", "_law_pot", defArgs st_w_pot, defBody st_w_pot, defScope st_w_pot, [], []⟩
abbrev st_w_draw : Stmt := top 42
def dd_w_draw : He.DefD := ⟨("_law_draw", none), "_law_draw", "_law_draw", defArgs st_w_draw, defBody st_w_draw, defScope st_w_draw, [], []⟩
abbrev st_w_low : Stmt := top 43
def dd_w_low : He.DefD := ⟨("_law_low", none), "_law_low", "_law_low", defArgs st_w_low, defBody st_w_low, defScope st_w_low, [], []⟩
abbrev st_w_sum : Stmt := top 44
def dd_w_sum : He.DefD := ⟨("_law_sum", none), "_law_sum", "_law_sum", defArgs st_w_sum, defBody st_w_sum, defScope st_w_sum, [], []⟩
abbrev st_w_total : Stmt := top 45
def dd_w_total : He.DefD := ⟨("_law_total", none), "_law_total", "_law_total", defArgs st_w_total, defBody st_w_total, defScope st_w_total, [], []⟩
abbrev st_w_some : Stmt := top 46
def dd_w_some : He.DefD := ⟨("_law_some", none), "_law_some", "_law_some", defArgs st_w_some, defBody st_w_some, defScope st_w_some, [], []⟩
abbrev st_w_odd_weight : Stmt := top 47
def dd_w_odd_weight : He.DefD := ⟨("_law_odd_weight", none), "_law_odd_weight", "_law_odd_weight", defArgs st_w_odd_weight, defBody st_w_odd_weight, defScope st_w_odd_weight, [], []⟩
abbrev st_w_odd_weights : Stmt := top 48
def dd_w_odd_weights : He.DefD := ⟨("_law_odd_weights", none), "_law_odd_weights", "_law_odd_weights", defArgs st_w_odd_weights, defBody st_w_odd_weights, defScope st_w_odd_weights, [], []⟩
abbrev st_w_is_whole : Stmt := top 49
def dd_w_is_whole : He.DefD := ⟨("_law_is_whole", none), "_law_is_whole", "_law_is_whole", defArgs st_w_is_whole, defBody st_w_is_whole, defScope st_w_is_whole, [], []⟩
abbrev st_w_is_weight : Stmt := top 50
def dd_w_is_weight : He.DefD := ⟨("_law_is_weight", none), "_law_is_weight", "_law_is_weight", defArgs st_w_is_weight, defBody st_w_is_weight, defScope st_w_is_weight, [], []⟩
abbrev st_w_due : Stmt := top 51
def dd_w_due : He.DefD := ⟨("_law_due", none), "_law_due", "_law_due", defArgs st_w_due, defBody st_w_due, defScope st_w_due, [], []⟩
abbrev st_w_told : Stmt := top 52
def dd_w_told : He.DefD := ⟨("_law_told", none), "_law_told", "_law_told", defArgs st_w_told, defBody st_w_told, defScope st_w_told, [], []⟩
abbrev st_law : Stmt := top 53
def dd_law : He.DefD := ⟨("law", none), "law", "law", defArgs st_law, defBody st_law, defScope st_law, [], []⟩
def fn : List He.DefD := [dd_common, dd_fraction, dd_plus, dd_minus, dd_times, dd_over, dd_is_less, dd_sum_of, dd_is_whole, dd_is_fraction, dd_is_weight, dd_are_weights, dd_floor_of, dd_many_of, dd_aims, dd_rests_of, dd_many_up, dd_greatest_of, dd_places_up, dd_apart, dd_worst_of, dd_rounded, dd_paper, dd_are_places, dd_shows, dd_w_cell, dd_w_pot, dd_w_draw, dd_w_low, dd_w_sum, dd_w_total, dd_w_some, dd_w_odd_weight, dd_w_odd_weights, dd_w_is_whole, dd_w_is_weight, dd_w_due, dd_w_told, dd_law]
def fa : List He.Fa := [.glo "common", .glo "fraction", .glo "plus", .glo "minus", .glo "times", .glo "over", .glo "is_less", .glo "sum_of", .glo "is_whole", .glo "is_fraction", .glo "is_weight", .glo "are_weights", .glo "floor_of", .glo "many_of", .glo "aims", .glo "rests_of", .glo "many_up", .glo "greatest_of", .glo "places_up", .glo "apart", .glo "worst_of", .glo "rounded", .glo "paper", .glo "are_places", .glo "shows", .glo "_law_cell", .glo "_law_pot", .glo "_law_draw", .glo "_law_low", .glo "_law_sum", .glo "_law_total", .glo "_law_some", .glo "_law_odd_weight", .glo "_law_odd_weights", .glo "_law_is_whole", .glo "_law_is_weight", .glo "_law_due", .glo "_law_told", .glo "law", .glo "LoafError", .glo "NoFraction", .glo "NoName", .glo "NoWeight", .glo "NoWeights", .glo "NoStep", .glo "TooLittle", .glo "NoCount", .exc "NoFraction", .exc "NoWeights", .exc "NoStep", .exc "TooLittle", .glo "NOUGHT", .glo "ONE", .int "MOST_WEIGHTS" 12, .free "abs", .free "all", .free "any", .free "divmod", .free "enumerate", .free "int", .free "isinstance", .free "len", .free "list", .free "max", .free "min", .free "range", .free "repr", .free "sum", .free "tuple", .free "zip", .free "ValueError", .free "bool"]
def rows : List KRow := [("NoFraction", "NoWeights", true, false), ("NoFraction", "NoStep", true, false), ("NoFraction", "TooLittle", true, false), ("NoFraction", "NoCount", true, false), ("NoFraction", "NoFraction", true, true), ("NoFraction", "NoName", true, false), ("NoFraction", "NoWeight", true, false), ("NoWeights", "NoWeights", true, true), ("NoWeights", "NoStep", true, false), ("NoWeights", "TooLittle", true, false), ("NoWeights", "NoCount", true, false), ("NoWeights", "NoFraction", true, false), ("NoWeights", "NoName", true, false), ("NoWeights", "NoWeight", true, false), ("NoStep", "NoWeights", true, false), ("NoStep", "NoStep", true, true), ("NoStep", "TooLittle", true, false), ("NoStep", "NoCount", true, false), ("NoStep", "NoFraction", true, false), ("NoStep", "NoName", true, false), ("NoStep", "NoWeight", true, false), ("TooLittle", "NoWeights", true, false), ("TooLittle", "NoStep", true, false), ("TooLittle", "TooLittle", true, true), ("TooLittle", "NoCount", true, false), ("TooLittle", "NoFraction", true, false), ("TooLittle", "NoName", true, false), ("TooLittle", "NoWeight", true, false), ("NoFraction", "ValueError", false, true), ("NoWeights", "ValueError", false, true), ("NoStep", "ValueError", false, true), ("TooLittle", "ValueError", false, true)]
def sub_LoafError : List (String × Bool) := [("NoFraction", true), ("NoWeights", true), ("NoStep", true), ("TooLittle", true)]
def ex (K : PySem.W.Frag) : Bool := He.tupB K "NOUGHT" [.int 0, .int 1] && (He.tupB K "ONE" [.int 1, .int 1] && (rowsB K rows && (exmB K "LoafError" sub_LoafError)))
abbrev R : PySem.W.OpenRow := PySem.W.OpenLaw.row PySem.Challenge.rw_loafshares_k59_scales_refused
abbrev hk : PySem.W.Hook := He.hookX 4 fa fn [] [] ex
def ob (s : PySem.W.SharedT) : He.AlX := He.obsX 4 fa fn [] [] ex (HandSHeadRun.getT s)
theorem ob_eq (s : PySem.W.SharedT) : ob s = hk.obs s.abs := He.obsX_eq (HandSHeadRun.getT_eq s)
def nm0 : List Str := ["LoafError", "NoFraction", "NoName", "NoWeight", "NoWeights", "NoStep", "TooLittle", "NoCount", "NOUGHT", "ONE", "common", "fraction", "plus", "minus", "times", "over", "is_less", "sum_of", "is_whole", "is_fraction", "is_weight", "MOST_WEIGHTS", "are_weights", "floor_of", "many_of", "aims", "rests_of", "many_up", "greatest_of", "places_up"]
def nm1 : List Str := ["apart", "worst_of", "rounded", "paper", "are_places", "shows", "_law_cell", "_law_pot", "_law_draw", "_law_low", "_law_sum", "_law_total", "_law_some", "_law_odd_weight", "_law_odd_weights", "_law_is_whole", "_law_is_weight", "_law_due", "_law_told"]
def loose : List Str := nm0 ++ nm1
theorem hrun (w : World) : HandSHeadRun.RunEq R (PySem.W.view R.prog [53]) hk ob 3000 loose w := by
  intro os
  kernel_rfl
end Pk59
end

section
set_option Elab.async false
set_option linter.all false
set_option autoImplicit false
set_option maxRecDepth 100000
set_option maxHeartbeats 4000000
namespace Pk59
open PySem PySem.Spec PyProof.Rows L2 DL
structure Fx (K : PySem.W.Frag) (mg : Str → Option Value) : Prop where
  fact : ∀ (i : Nat) {f : He.Fa}, fa[i]? = some f → f.ok K = true
  defs : ∀ (i : Nat) {d : He.DefD}, fn[i]? = some d → ∃ fd, FunD K d.name d.qual d.params d.body d.scope (d.dvs K) (d.kws K) (He.fAd K d.at_) fd
  glo : ∀ (i : Nat) {x : Str}, fa[i]? = some (.glo x) → mg x = some (.ref (He.ga K x))
  free : ∀ (i : Nat) {x : Str}, fa[i]? = some (.free x) → mg x = none
  int : ∀ (i : Nat) {x : Str} {z : Int}, fa[i]? = some (.int x z) → ∃ t, mg x = some (.int z t)
  more : ex K = true
theorem fx_of {K : PySem.W.Frag} {mg : Str → Option Value} {w : World} {h : Heap} (X : K.In h) (G : h.Ns mainGlobals mg) (c : He.SaysX fa fn [] [] ex w h K) : Fx K mg :=
  ⟨fun i f e => He.SaysD.fact c.t.d i e, fun i d e => He.SaysD.def_ c.t.d i e, fun i x e => He.glo_ok X G (He.SaysD.fact c.t.d i e), fun i x e => He.free_ok X G (He.SaysD.fact c.t.d i e), fun i x z e => He.int_ok X G (He.SaysD.fact c.t.d i e), c.more⟩
section
variable {K : PySem.W.Frag} {mg : Str → Option Value} {P : Program} {w : World} {base : Heap}
theorem g_common (c : Fx K mg) : mg "common" = some (.ref (He.ga K "common")) := c.glo 0 rfl
theorem g_fraction (c : Fx K mg) : mg "fraction" = some (.ref (He.ga K "fraction")) := c.glo 1 rfl
theorem g_plus (c : Fx K mg) : mg "plus" = some (.ref (He.ga K "plus")) := c.glo 2 rfl
theorem g_minus (c : Fx K mg) : mg "minus" = some (.ref (He.ga K "minus")) := c.glo 3 rfl
theorem g_times (c : Fx K mg) : mg "times" = some (.ref (He.ga K "times")) := c.glo 4 rfl
theorem g_over (c : Fx K mg) : mg "over" = some (.ref (He.ga K "over")) := c.glo 5 rfl
theorem g_is_less (c : Fx K mg) : mg "is_less" = some (.ref (He.ga K "is_less")) := c.glo 6 rfl
theorem g_sum_of (c : Fx K mg) : mg "sum_of" = some (.ref (He.ga K "sum_of")) := c.glo 7 rfl
theorem g_is_whole (c : Fx K mg) : mg "is_whole" = some (.ref (He.ga K "is_whole")) := c.glo 8 rfl
theorem g_is_fraction (c : Fx K mg) : mg "is_fraction" = some (.ref (He.ga K "is_fraction")) := c.glo 9 rfl
theorem g_is_weight (c : Fx K mg) : mg "is_weight" = some (.ref (He.ga K "is_weight")) := c.glo 10 rfl
theorem g_are_weights (c : Fx K mg) : mg "are_weights" = some (.ref (He.ga K "are_weights")) := c.glo 11 rfl
theorem g_floor_of (c : Fx K mg) : mg "floor_of" = some (.ref (He.ga K "floor_of")) := c.glo 12 rfl
theorem g_many_of (c : Fx K mg) : mg "many_of" = some (.ref (He.ga K "many_of")) := c.glo 13 rfl
theorem g_aims (c : Fx K mg) : mg "aims" = some (.ref (He.ga K "aims")) := c.glo 14 rfl
theorem g_rests_of (c : Fx K mg) : mg "rests_of" = some (.ref (He.ga K "rests_of")) := c.glo 15 rfl
theorem g_many_up (c : Fx K mg) : mg "many_up" = some (.ref (He.ga K "many_up")) := c.glo 16 rfl
theorem g_greatest_of (c : Fx K mg) : mg "greatest_of" = some (.ref (He.ga K "greatest_of")) := c.glo 17 rfl
theorem g_places_up (c : Fx K mg) : mg "places_up" = some (.ref (He.ga K "places_up")) := c.glo 18 rfl
theorem g_apart (c : Fx K mg) : mg "apart" = some (.ref (He.ga K "apart")) := c.glo 19 rfl
theorem g_worst_of (c : Fx K mg) : mg "worst_of" = some (.ref (He.ga K "worst_of")) := c.glo 20 rfl
theorem g_rounded (c : Fx K mg) : mg "rounded" = some (.ref (He.ga K "rounded")) := c.glo 21 rfl
theorem g_paper (c : Fx K mg) : mg "paper" = some (.ref (He.ga K "paper")) := c.glo 22 rfl
theorem g_are_places (c : Fx K mg) : mg "are_places" = some (.ref (He.ga K "are_places")) := c.glo 23 rfl
theorem g_shows (c : Fx K mg) : mg "shows" = some (.ref (He.ga K "shows")) := c.glo 24 rfl
theorem g_w_cell (c : Fx K mg) : mg "_law_cell" = some (.ref (He.ga K "_law_cell")) := c.glo 25 rfl
theorem g_w_pot (c : Fx K mg) : mg "_law_pot" = some (.ref (He.ga K "_law_pot")) := c.glo 26 rfl
theorem g_w_draw (c : Fx K mg) : mg "_law_draw" = some (.ref (He.ga K "_law_draw")) := c.glo 27 rfl
theorem g_w_low (c : Fx K mg) : mg "_law_low" = some (.ref (He.ga K "_law_low")) := c.glo 28 rfl
theorem g_w_sum (c : Fx K mg) : mg "_law_sum" = some (.ref (He.ga K "_law_sum")) := c.glo 29 rfl
theorem g_w_total (c : Fx K mg) : mg "_law_total" = some (.ref (He.ga K "_law_total")) := c.glo 30 rfl
theorem g_w_some (c : Fx K mg) : mg "_law_some" = some (.ref (He.ga K "_law_some")) := c.glo 31 rfl
theorem g_w_odd_weight (c : Fx K mg) : mg "_law_odd_weight" = some (.ref (He.ga K "_law_odd_weight")) := c.glo 32 rfl
theorem g_w_odd_weights (c : Fx K mg) : mg "_law_odd_weights" = some (.ref (He.ga K "_law_odd_weights")) := c.glo 33 rfl
theorem g_w_is_whole (c : Fx K mg) : mg "_law_is_whole" = some (.ref (He.ga K "_law_is_whole")) := c.glo 34 rfl
theorem g_w_is_weight (c : Fx K mg) : mg "_law_is_weight" = some (.ref (He.ga K "_law_is_weight")) := c.glo 35 rfl
theorem g_w_due (c : Fx K mg) : mg "_law_due" = some (.ref (He.ga K "_law_due")) := c.glo 36 rfl
theorem g_w_told (c : Fx K mg) : mg "_law_told" = some (.ref (He.ga K "_law_told")) := c.glo 37 rfl
theorem g_law (c : Fx K mg) : mg "law" = some (.ref (He.ga K "law")) := c.glo 38 rfl
theorem g_LoafError (c : Fx K mg) : mg "LoafError" = some (.ref (He.ga K "LoafError")) := c.glo 39 rfl
theorem g_NoFraction (c : Fx K mg) : mg "NoFraction" = some (.ref (He.ga K "NoFraction")) := c.glo 40 rfl
theorem g_NoName (c : Fx K mg) : mg "NoName" = some (.ref (He.ga K "NoName")) := c.glo 41 rfl
theorem g_NoWeight (c : Fx K mg) : mg "NoWeight" = some (.ref (He.ga K "NoWeight")) := c.glo 42 rfl
theorem g_NoWeights (c : Fx K mg) : mg "NoWeights" = some (.ref (He.ga K "NoWeights")) := c.glo 43 rfl
theorem g_NoStep (c : Fx K mg) : mg "NoStep" = some (.ref (He.ga K "NoStep")) := c.glo 44 rfl
theorem g_TooLittle (c : Fx K mg) : mg "TooLittle" = some (.ref (He.ga K "TooLittle")) := c.glo 45 rfl
theorem g_NoCount (c : Fx K mg) : mg "NoCount" = some (.ref (He.ga K "NoCount")) := c.glo 46 rfl
theorem x_NoFraction (c : Fx K mg) : (He.Fa.exc "NoFraction").ok K = true := c.fact 47 rfl
theorem x_NoWeights (c : Fx K mg) : (He.Fa.exc "NoWeights").ok K = true := c.fact 48 rfl
theorem x_NoStep (c : Fx K mg) : (He.Fa.exc "NoStep").ok K = true := c.fact 49 rfl
theorem x_TooLittle (c : Fx K mg) : (He.Fa.exc "TooLittle").ok K = true := c.fact 50 rfl
theorem g_NOUGHT (c : Fx K mg) : mg "NOUGHT" = some (.ref (He.ga K "NOUGHT")) := c.glo 51 rfl
theorem g_ONE (c : Fx K mg) : mg "ONE" = some (.ref (He.ga K "ONE")) := c.glo 52 rfl
theorem i_MOST_WEIGHTS (c : Fx K mg) : ∃ t, mg "MOST_WEIGHTS" = some (.int 12 t) := c.int 53 rfl
theorem n_abs (c : Fx K mg) : mg "abs" = none := c.free 54 rfl
theorem n_all (c : Fx K mg) : mg "all" = none := c.free 55 rfl
theorem n_any (c : Fx K mg) : mg "any" = none := c.free 56 rfl
theorem n_divmod (c : Fx K mg) : mg "divmod" = none := c.free 57 rfl
theorem n_enumerate (c : Fx K mg) : mg "enumerate" = none := c.free 58 rfl
theorem n_int (c : Fx K mg) : mg "int" = none := c.free 59 rfl
theorem n_isinstance (c : Fx K mg) : mg "isinstance" = none := c.free 60 rfl
theorem n_len (c : Fx K mg) : mg "len" = none := c.free 61 rfl
theorem n_list (c : Fx K mg) : mg "list" = none := c.free 62 rfl
theorem n_max (c : Fx K mg) : mg "max" = none := c.free 63 rfl
theorem n_min (c : Fx K mg) : mg "min" = none := c.free 64 rfl
theorem n_range (c : Fx K mg) : mg "range" = none := c.free 65 rfl
theorem n_repr (c : Fx K mg) : mg "repr" = none := c.free 66 rfl
theorem n_sum (c : Fx K mg) : mg "sum" = none := c.free 67 rfl
theorem n_tuple (c : Fx K mg) : mg "tuple" = none := c.free 68 rfl
theorem n_zip (c : Fx K mg) : mg "zip" = none := c.free 69 rfl
theorem n_ValueError (c : Fx K mg) : mg "ValueError" = none := c.free 70 rfl
theorem n_bool (c : Fx K mg) : mg "bool" = none := c.free 71 rfl
theorem moreAll (c : Fx K mg) : ex K = true := c.more
theorem t_NOUGHT (c : Fx K mg) (H : Hp) : SqT K H (He.ga K "NOUGHT") [V.int 0, V.int 1] := He.tupB_ok ((He.ba (c.more)).1) H
theorem t_ONE (c : Fx K mg) (H : Hp) : SqT K H (He.ga K "ONE") [V.int 1, V.int 1] := He.tupB_ok ((He.ba ((He.ba (c.more)).2)).1) H
theorem kd (c : Fx K mg) : KindsE K (tbK rows) := kindsE_of ((He.ba ((He.ba ((He.ba (c.more)).2)).2)).1)
theorem e_LoafError (c : Fx K mg) : exmB K "LoafError" sub_LoafError = true := (He.ba ((He.ba ((He.ba (c.more)).2)).2)).2
theorem f_common (c : Fx K mg) : ∃ fd, FunD K "common" "common" (defArgs st_common) (defBody st_common) (defScope st_common) [] [] (He.ga K "common") fd := c.defs 0 rfl
theorem f_fraction (c : Fx K mg) : ∃ fd, FunD K "fraction" "fraction" (defArgs st_fraction) (defBody st_fraction) (defScope st_fraction) [] [] (He.ga K "fraction") fd := c.defs 1 rfl
theorem f_plus (c : Fx K mg) : ∃ fd, FunD K "plus" "plus" (defArgs st_plus) (defBody st_plus) (defScope st_plus) [] [] (He.ga K "plus") fd := c.defs 2 rfl
theorem f_minus (c : Fx K mg) : ∃ fd, FunD K "minus" "minus" (defArgs st_minus) (defBody st_minus) (defScope st_minus) [] [] (He.ga K "minus") fd := c.defs 3 rfl
theorem f_times (c : Fx K mg) : ∃ fd, FunD K "times" "times" (defArgs st_times) (defBody st_times) (defScope st_times) [] [] (He.ga K "times") fd := c.defs 4 rfl
theorem f_over (c : Fx K mg) : ∃ fd, FunD K "over" "over" (defArgs st_over) (defBody st_over) (defScope st_over) [] [] (He.ga K "over") fd := c.defs 5 rfl
theorem f_is_less (c : Fx K mg) : ∃ fd, FunD K "is_less" "is_less" (defArgs st_is_less) (defBody st_is_less) (defScope st_is_less) [] [] (He.ga K "is_less") fd := c.defs 6 rfl
theorem f_sum_of (c : Fx K mg) : ∃ fd, FunD K "sum_of" "sum_of" (defArgs st_sum_of) (defBody st_sum_of) (defScope st_sum_of) [] [] (He.ga K "sum_of") fd := c.defs 7 rfl
theorem f_is_whole (c : Fx K mg) : ∃ fd, FunD K "is_whole" "is_whole" (defArgs st_is_whole) (defBody st_is_whole) (defScope st_is_whole) [] [] (He.ga K "is_whole") fd := c.defs 8 rfl
theorem f_is_fraction (c : Fx K mg) : ∃ fd, FunD K "is_fraction" "is_fraction" (defArgs st_is_fraction) (defBody st_is_fraction) (defScope st_is_fraction) [] [] (He.ga K "is_fraction") fd := c.defs 9 rfl
theorem f_is_weight (c : Fx K mg) : ∃ fd, FunD K "is_weight" "is_weight" (defArgs st_is_weight) (defBody st_is_weight) (defScope st_is_weight) [] [] (He.ga K "is_weight") fd := c.defs 10 rfl
theorem f_are_weights (c : Fx K mg) : ∃ fd, FunD K "are_weights" "are_weights" (defArgs st_are_weights) (defBody st_are_weights) (defScope st_are_weights) [] [] (He.ga K "are_weights") fd := c.defs 11 rfl
theorem f_floor_of (c : Fx K mg) : ∃ fd, FunD K "floor_of" "floor_of" (defArgs st_floor_of) (defBody st_floor_of) (defScope st_floor_of) [] [] (He.ga K "floor_of") fd := c.defs 12 rfl
theorem f_many_of (c : Fx K mg) : ∃ fd, FunD K "many_of" "many_of" (defArgs st_many_of) (defBody st_many_of) (defScope st_many_of) [] [] (He.ga K "many_of") fd := c.defs 13 rfl
theorem f_aims (c : Fx K mg) : ∃ fd, FunD K "aims" "aims" (defArgs st_aims) (defBody st_aims) (defScope st_aims) [] [] (He.ga K "aims") fd := c.defs 14 rfl
theorem f_rests_of (c : Fx K mg) : ∃ fd, FunD K "rests_of" "rests_of" (defArgs st_rests_of) (defBody st_rests_of) (defScope st_rests_of) [] [] (He.ga K "rests_of") fd := c.defs 15 rfl
theorem f_many_up (c : Fx K mg) : ∃ fd, FunD K "many_up" "many_up" (defArgs st_many_up) (defBody st_many_up) (defScope st_many_up) [] [] (He.ga K "many_up") fd := c.defs 16 rfl
theorem f_greatest_of (c : Fx K mg) : ∃ fd, FunD K "greatest_of" "greatest_of" (defArgs st_greatest_of) (defBody st_greatest_of) (defScope st_greatest_of) [] [] (He.ga K "greatest_of") fd := c.defs 17 rfl
theorem f_places_up (c : Fx K mg) : ∃ fd, FunD K "places_up" "places_up" (defArgs st_places_up) (defBody st_places_up) (defScope st_places_up) [] [] (He.ga K "places_up") fd := c.defs 18 rfl
theorem f_apart (c : Fx K mg) : ∃ fd, FunD K "apart" "apart" (defArgs st_apart) (defBody st_apart) (defScope st_apart) [] [] (He.ga K "apart") fd := c.defs 19 rfl
theorem f_worst_of (c : Fx K mg) : ∃ fd, FunD K "worst_of" "worst_of" (defArgs st_worst_of) (defBody st_worst_of) (defScope st_worst_of) [] [] (He.ga K "worst_of") fd := c.defs 20 rfl
theorem f_rounded (c : Fx K mg) : ∃ fd, FunD K "rounded" "rounded" (defArgs st_rounded) (defBody st_rounded) (defScope st_rounded) [] [] (He.ga K "rounded") fd := c.defs 21 rfl
theorem f_paper (c : Fx K mg) : ∃ fd, FunD K "paper" "paper" (defArgs st_paper) (defBody st_paper) (defScope st_paper) [] [] (He.ga K "paper") fd := c.defs 22 rfl
theorem f_are_places (c : Fx K mg) : ∃ fd, FunD K "are_places" "are_places" (defArgs st_are_places) (defBody st_are_places) (defScope st_are_places) [] [] (He.ga K "are_places") fd := c.defs 23 rfl
theorem f_shows (c : Fx K mg) : ∃ fd, FunD K "shows" "shows" (defArgs st_shows) (defBody st_shows) (defScope st_shows) [] [] (He.ga K "shows") fd := c.defs 24 rfl
theorem f_w_cell (c : Fx K mg) : ∃ fd, FunD K "_law_cell" "_law_cell" (defArgs st_w_cell) (defBody st_w_cell) (defScope st_w_cell) [] [] (He.ga K "_law_cell") fd := c.defs 25 rfl
theorem f_w_pot (c : Fx K mg) : ∃ fd, FunD K "_law_pot" "_law_pot" (defArgs st_w_pot) (defBody st_w_pot) (defScope st_w_pot) [] [] (He.ga K "_law_pot") fd := c.defs 26 rfl
theorem f_w_draw (c : Fx K mg) : ∃ fd, FunD K "_law_draw" "_law_draw" (defArgs st_w_draw) (defBody st_w_draw) (defScope st_w_draw) [] [] (He.ga K "_law_draw") fd := c.defs 27 rfl
theorem f_w_low (c : Fx K mg) : ∃ fd, FunD K "_law_low" "_law_low" (defArgs st_w_low) (defBody st_w_low) (defScope st_w_low) [] [] (He.ga K "_law_low") fd := c.defs 28 rfl
theorem f_w_sum (c : Fx K mg) : ∃ fd, FunD K "_law_sum" "_law_sum" (defArgs st_w_sum) (defBody st_w_sum) (defScope st_w_sum) [] [] (He.ga K "_law_sum") fd := c.defs 29 rfl
theorem f_w_total (c : Fx K mg) : ∃ fd, FunD K "_law_total" "_law_total" (defArgs st_w_total) (defBody st_w_total) (defScope st_w_total) [] [] (He.ga K "_law_total") fd := c.defs 30 rfl
theorem f_w_some (c : Fx K mg) : ∃ fd, FunD K "_law_some" "_law_some" (defArgs st_w_some) (defBody st_w_some) (defScope st_w_some) [] [] (He.ga K "_law_some") fd := c.defs 31 rfl
theorem f_w_odd_weight (c : Fx K mg) : ∃ fd, FunD K "_law_odd_weight" "_law_odd_weight" (defArgs st_w_odd_weight) (defBody st_w_odd_weight) (defScope st_w_odd_weight) [] [] (He.ga K "_law_odd_weight") fd := c.defs 32 rfl
theorem f_w_odd_weights (c : Fx K mg) : ∃ fd, FunD K "_law_odd_weights" "_law_odd_weights" (defArgs st_w_odd_weights) (defBody st_w_odd_weights) (defScope st_w_odd_weights) [] [] (He.ga K "_law_odd_weights") fd := c.defs 33 rfl
theorem f_w_is_whole (c : Fx K mg) : ∃ fd, FunD K "_law_is_whole" "_law_is_whole" (defArgs st_w_is_whole) (defBody st_w_is_whole) (defScope st_w_is_whole) [] [] (He.ga K "_law_is_whole") fd := c.defs 34 rfl
theorem f_w_is_weight (c : Fx K mg) : ∃ fd, FunD K "_law_is_weight" "_law_is_weight" (defArgs st_w_is_weight) (defBody st_w_is_weight) (defScope st_w_is_weight) [] [] (He.ga K "_law_is_weight") fd := c.defs 35 rfl
theorem f_w_due (c : Fx K mg) : ∃ fd, FunD K "_law_due" "_law_due" (defArgs st_w_due) (defBody st_w_due) (defScope st_w_due) [] [] (He.ga K "_law_due") fd := c.defs 36 rfl
theorem f_w_told (c : Fx K mg) : ∃ fd, FunD K "_law_told" "_law_told" (defArgs st_w_told) (defBody st_w_told) (defScope st_w_told) [] [] (He.ga K "_law_told") fd := c.defs 37 rfl
theorem f_law (c : Fx K mg) : ∃ fd, FunD K "law" "law" (defArgs st_law) (defBody st_law) (defScope st_law) [] [] (He.ga K "law") fd := c.defs 38 rfl
abbrev sl_common : List Str := ["one", "other"]
noncomputable def b_common : FS :=
  (sSeq (sWh (tB (e2 (oEq true) (eV 1) (eC (.int 0)))) (sPar 0 1 (aC (eV 1) (aC (e2 oMod (eV 0) (eV 1)) aN))))
  (sRet (eA oAbs (aC (eV 0) aN))))
noncomputable def m_common : FM := run 2 b_common
theorem sc_common : FnScope sl_common ["one", "other"] (defScope st_common) := ⟨rfl, rfl, rfl, by decide +kernel, rfl, by decide +kernel, by decide +kernel⟩
theorem c_common (c : Fx K mg) : CallD P w K mg base "common" 1 2 m_common := by
  obtain ⟨fd, F⟩ := f_common c
  refine mkD F sc_common (g_common c) (fun _ _ _ _ _ _ us hl => match us, hl with | [_, _], _ => rfl) fun cdv A outer s H E hr tk po => ?_
  have nd := sc_common.nd
  exact (sd_cons (sd_wh po (td_ne hr (pd_v 1) pd_int)
   (sd_one (sd_par (i := 0) (j := 1) rfl nd rfl rfl (by decide) rfl rfl (ad_cons (pd_v 1) (ad_cons (pd_mod (pd_v 0) (pd_v 1)) ad_nil)) (by rfl))))
  (sd_one (sd_ret (pd_abs rfl (n_abs c) (ad_cons (pd_v 0) ad_nil)))))
abbrev sl_fraction : List Str := ["top", "bottom", "by"]
noncomputable def b_fraction : FS :=
  (sSeq (sIf (tB (e2 (oEq false) (eV 1) (eC (.int 0)))) (sRaise ⟨"NoFraction", none⟩) sNx)
  (sSeq (sSet 2 (eA m_common (aC (eV 0) (aC (eV 1) aN))))
  (sSeq (sIf (tB (e2 oLt (eV 1) (eC (.int 0)))) (sSet 2 (e1 oNeg (eV 2))) sNx)
  (sRet (eA oTupN (aC (e2 oDiv (eV 0) (eV 2)) (aC (e2 oDiv (eV 1) (eV 2)) aN)))))))
noncomputable def m_fraction : FM := run 3 b_fraction
theorem sc_fraction : FnScope sl_fraction ["top", "bottom"] (defScope st_fraction) := ⟨rfl, rfl, rfl, by decide +kernel, rfl, by decide +kernel, by decide +kernel⟩
theorem c_fraction (c : Fx K mg) : CallD P w K mg base "fraction" 2 2 m_fraction := by
  obtain ⟨fd, F⟩ := f_fraction c
  refine mkD F sc_fraction (g_fraction c) (fun _ _ _ _ _ _ us hl => match us, hl with | [_, _], _ => rfl) fun cdv A outer s H E hr tk po => ?_
  have nd := sc_fraction.nd
  exact (sd_cons (sd_if (td_eq hr (pd_v 1) pd_int)
   (sd_one ((pd_raise0' rfl tk (x_NoFraction c) (g_NoFraction c) rfl)))
   sd_nil)
  (sd_cons (sd_set (i := 2) nd rfl (by first | exact Or.inl rfl | exact Or.inr rfl) (pd_cal (c_common c) hr (by decide) tk rfl (ad_cons (pd_v 0) (ad_cons (pd_v 1) ad_nil)) (aC_len (aC_len aN_len))))
  (sd_cons (sd_if (td_lt (pd_v 1) pd_int)
   (sd_one (sd_set (i := 2) nd rfl (by first | exact Or.inl rfl | exact Or.inr rfl) (pd_neg (pd_v 2))))
   sd_nil)
  (sd_one (sd_ret (pd_tup (ad_cons (pd_div (pd_v 0) (pd_v 2)) (ad_cons (pd_div (pd_v 1) (pd_v 2)) ad_nil))))))))
abbrev sl_plus : List Str := ["one", "other"]
noncomputable def b_plus : FS :=
  (sRet (eA m_fraction (aC (e2 oAdd (e2 oMul (e2 oIx (eV 0) (eC (.int 0))) (e2 oIx (eV 1) (eC (.int 1)))) (e2 oMul (e2 oIx (eV 1) (eC (.int 0))) (e2 oIx (eV 0) (eC (.int 1))))) (aC (e2 oMul (e2 oIx (eV 0) (eC (.int 1))) (e2 oIx (eV 1) (eC (.int 1)))) aN))))
noncomputable def m_plus : FM := run 2 b_plus
theorem sc_plus : FnScope sl_plus ["one", "other"] (defScope st_plus) := ⟨rfl, rfl, rfl, by decide +kernel, rfl, by decide +kernel, by decide +kernel⟩
theorem c_plus (c : Fx K mg) : CallD P w K mg base "plus" 3 2 m_plus := by
  obtain ⟨fd, F⟩ := f_plus c
  refine mkD F sc_plus (g_plus c) (fun _ _ _ _ _ _ us hl => match us, hl with | [_, _], _ => rfl) fun cdv A outer s H E hr tk po => ?_
  have nd := sc_plus.nd
  exact (sd_one (sd_ret (pd_cal (c_fraction c) hr (by decide) tk rfl (ad_cons (pd_add (pd_mul (pd_at (pd_v 0) pd_int) (pd_at (pd_v 1) pd_int)) (pd_mul (pd_at (pd_v 1) pd_int) (pd_at (pd_v 0) pd_int))) (ad_cons (pd_mul (pd_at (pd_v 0) pd_int) (pd_at (pd_v 1) pd_int)) ad_nil)) (aC_len (aC_len aN_len)))))
abbrev sl_minus : List Str := ["one", "other"]
noncomputable def b_minus : FS :=
  (sRet (eA m_fraction (aC (e2 oSub (e2 oMul (e2 oIx (eV 0) (eC (.int 0))) (e2 oIx (eV 1) (eC (.int 1)))) (e2 oMul (e2 oIx (eV 1) (eC (.int 0))) (e2 oIx (eV 0) (eC (.int 1))))) (aC (e2 oMul (e2 oIx (eV 0) (eC (.int 1))) (e2 oIx (eV 1) (eC (.int 1)))) aN))))
noncomputable def m_minus : FM := run 2 b_minus
theorem sc_minus : FnScope sl_minus ["one", "other"] (defScope st_minus) := ⟨rfl, rfl, rfl, by decide +kernel, rfl, by decide +kernel, by decide +kernel⟩
theorem c_minus (c : Fx K mg) : CallD P w K mg base "minus" 3 2 m_minus := by
  obtain ⟨fd, F⟩ := f_minus c
  refine mkD F sc_minus (g_minus c) (fun _ _ _ _ _ _ us hl => match us, hl with | [_, _], _ => rfl) fun cdv A outer s H E hr tk po => ?_
  have nd := sc_minus.nd
  exact (sd_one (sd_ret (pd_cal (c_fraction c) hr (by decide) tk rfl (ad_cons (pd_sub (pd_mul (pd_at (pd_v 0) pd_int) (pd_at (pd_v 1) pd_int)) (pd_mul (pd_at (pd_v 1) pd_int) (pd_at (pd_v 0) pd_int))) (ad_cons (pd_mul (pd_at (pd_v 0) pd_int) (pd_at (pd_v 1) pd_int)) ad_nil)) (aC_len (aC_len aN_len)))))
abbrev sl_times : List Str := ["one", "other"]
noncomputable def b_times : FS :=
  (sRet (eA m_fraction (aC (e2 oMul (e2 oIx (eV 0) (eC (.int 0))) (e2 oIx (eV 1) (eC (.int 0)))) (aC (e2 oMul (e2 oIx (eV 0) (eC (.int 1))) (e2 oIx (eV 1) (eC (.int 1)))) aN))))
noncomputable def m_times : FM := run 2 b_times
theorem sc_times : FnScope sl_times ["one", "other"] (defScope st_times) := ⟨rfl, rfl, rfl, by decide +kernel, rfl, by decide +kernel, by decide +kernel⟩
theorem c_times (c : Fx K mg) : CallD P w K mg base "times" 3 2 m_times := by
  obtain ⟨fd, F⟩ := f_times c
  refine mkD F sc_times (g_times c) (fun _ _ _ _ _ _ us hl => match us, hl with | [_, _], _ => rfl) fun cdv A outer s H E hr tk po => ?_
  have nd := sc_times.nd
  exact (sd_one (sd_ret (pd_cal (c_fraction c) hr (by decide) tk rfl (ad_cons (pd_mul (pd_at (pd_v 0) pd_int) (pd_at (pd_v 1) pd_int)) (ad_cons (pd_mul (pd_at (pd_v 0) pd_int) (pd_at (pd_v 1) pd_int)) ad_nil)) (aC_len (aC_len aN_len)))))
abbrev sl_over : List Str := ["one", "other"]
noncomputable def b_over : FS :=
  (sRet (eA m_fraction (aC (e2 oMul (e2 oIx (eV 0) (eC (.int 0))) (e2 oIx (eV 1) (eC (.int 1)))) (aC (e2 oMul (e2 oIx (eV 0) (eC (.int 1))) (e2 oIx (eV 1) (eC (.int 0)))) aN))))
noncomputable def m_over : FM := run 2 b_over
theorem sc_over : FnScope sl_over ["one", "other"] (defScope st_over) := ⟨rfl, rfl, rfl, by decide +kernel, rfl, by decide +kernel, by decide +kernel⟩
theorem c_over (c : Fx K mg) : CallD P w K mg base "over" 3 2 m_over := by
  obtain ⟨fd, F⟩ := f_over c
  refine mkD F sc_over (g_over c) (fun _ _ _ _ _ _ us hl => match us, hl with | [_, _], _ => rfl) fun cdv A outer s H E hr tk po => ?_
  have nd := sc_over.nd
  exact (sd_one (sd_ret (pd_cal (c_fraction c) hr (by decide) tk rfl (ad_cons (pd_mul (pd_at (pd_v 0) pd_int) (pd_at (pd_v 1) pd_int)) (ad_cons (pd_mul (pd_at (pd_v 0) pd_int) (pd_at (pd_v 1) pd_int)) ad_nil)) (aC_len (aC_len aN_len)))))
abbrev sl_is_less : List Str := ["one", "other"]
noncomputable def b_is_less : FS :=
  (sRet (e2 oLt (e2 oMul (e2 oIx (eV 0) (eC (.int 0))) (e2 oIx (eV 1) (eC (.int 1)))) (e2 oMul (e2 oIx (eV 1) (eC (.int 0))) (e2 oIx (eV 0) (eC (.int 1))))))
noncomputable def m_is_less : FM := run 2 b_is_less
theorem sc_is_less : FnScope sl_is_less ["one", "other"] (defScope st_is_less) := ⟨rfl, rfl, rfl, by decide +kernel, rfl, by decide +kernel, by decide +kernel⟩
theorem c_is_less (c : Fx K mg) : CallD P w K mg base "is_less" 1 2 m_is_less := by
  obtain ⟨fd, F⟩ := f_is_less c
  refine mkD F sc_is_less (g_is_less c) (fun _ _ _ _ _ _ us hl => match us, hl with | [_, _], _ => rfl) fun cdv A outer s H E hr tk po => ?_
  have nd := sc_is_less.nd
  exact (sd_one (sd_ret (pd_lt (pd_mul (pd_at (pd_v 0) pd_int) (pd_at (pd_v 1) pd_int)) (pd_mul (pd_at (pd_v 1) pd_int) (pd_at (pd_v 0) pd_int)))))
abbrev sl_sum_of : List Str := ["some", "found", "one"]
noncomputable def b_sum_of : FS :=
  (sSeq (sSet 1 (eC (.tup [.int 0, .int 1])))
  (sSeq (sFor (fiSeq (eV 0)) (gN 2) (sSet 1 (eA m_plus (aC (eV 1) (aC (eV 2) aN)))))
  (sRet (eV 1))))
noncomputable def m_sum_of : FM := run 3 b_sum_of
theorem sc_sum_of : FnScope sl_sum_of ["some"] (defScope st_sum_of) := ⟨rfl, rfl, rfl, by decide +kernel, rfl, by decide +kernel, by decide +kernel⟩
theorem c_sum_of (c : Fx K mg) : CallD P w K mg base "sum_of" 4 1 m_sum_of := by
  obtain ⟨fd, F⟩ := f_sum_of c
  refine mkD F sc_sum_of (g_sum_of c) (fun _ _ _ _ _ _ us hl => match us, hl with | [_], _ => rfl) fun cdv A outer s H E hr tk po => ?_
  have nd := sc_sum_of.nd
  exact (sd_cons (sd_set (i := 1) nd rfl (by first | exact Or.inl rfl | exact Or.inr rfl) (pd_gT rfl (g_NOUGHT c) (t_NOUGHT c) (fun _ _ _ => ⟨_, _, rfl, rfl, ⟨_, _, rfl, rfl, rfl⟩⟩)))
  (sd_cons (sd_for po rfl (id_seq (pd_v 0)) (pg_name (i := 2) nd rfl (by first | exact Or.inl rfl | exact Or.inr rfl)) tk_name
   (sd_one (sd_set (i := 1) nd rfl (by first | exact Or.inl rfl | exact Or.inr rfl) (pd_cal (c_plus c) hr (by decide) tk rfl (ad_cons (pd_v 1) (ad_cons (pd_v 2) ad_nil)) (aC_len (aC_len aN_len))))))
  (sd_one (sd_ret (pd_v 1)))))
abbrev sl_is_whole : List Str := ["thing"]
noncomputable def b_is_whole : FS :=
  (sRet (eAnd (eA (oIs noK) (aC (eV 0) (aC (eC (.ty "int")) aN))) (e1 oNot (eA (oIs noK) (aC (eV 0) (aC (eC (.ty "bool")) aN))))))
noncomputable def m_is_whole : FM := run 1 b_is_whole
theorem sc_is_whole : FnScope sl_is_whole ["thing"] (defScope st_is_whole) := ⟨rfl, rfl, rfl, by decide +kernel, rfl, by decide +kernel, by decide +kernel⟩
theorem c_is_whole (c : Fx K mg) : CallD P w K mg base "is_whole" 1 1 m_is_whole := by
  obtain ⟨fd, F⟩ := f_is_whole c
  refine mkD F sc_is_whole (g_is_whole c) (fun _ _ _ _ _ _ us hl => match us, hl with | [_], _ => rfl) fun cdv A outer s H E hr tk po => ?_
  have nd := sc_is_whole.nd
  exact (sd_one (sd_ret (pd_and (pd_is0 rfl (n_isinstance c) (ad_cons (pd_v 0) (ad_cons (pd_blt rfl (n_int c) (by decide +kernel)) ad_nil))) (pd_one (pd_not (pd_is0 rfl (n_isinstance c) (ad_cons (pd_v 0) (ad_cons (pd_blt rfl (n_bool c) (by decide +kernel)) ad_nil))))))))
abbrev sl_is_fraction : List Str := ["thing", "part"]
noncomputable def b_is_fraction : FS :=
  (sSeq (sIf (tOr (tNot (tB (eA (oIs noK) (aC (eV 0) (aC (eC (.ty "tuple")) aN))))) (tOr (tB (e2 (oEq true) (eA oLen (aC (eV 0) aN)) (eC (.int 2)))) (tNot (tB (eA (oAll false) (aC (eLc (fiSeq (eV 0)) (gN 1) [1] tTrue (eA m_is_whole (aC (eV 1) aN))) aN)))))) (sRet (eC (.bl false))) sNx)
  (sRet (eAnd (e2 oGt (e2 oIx (eV 0) (eC (.int 1))) (eC (.int 0))) (e2 (oEq false) (eA m_common (aC (e2 oIx (eV 0) (eC (.int 0))) (aC (e2 oIx (eV 0) (eC (.int 1))) aN))) (eC (.int 1))))))
noncomputable def m_is_fraction : FM := run 2 b_is_fraction
theorem sc_is_fraction : FnScope sl_is_fraction ["thing"] (defScope st_is_fraction) := ⟨rfl, rfl, rfl, by decide +kernel, rfl, by decide +kernel, by decide +kernel⟩
theorem c_is_fraction (c : Fx K mg) : CallD P w K mg base "is_fraction" 2 1 m_is_fraction := by
  obtain ⟨fd, F⟩ := f_is_fraction c
  refine mkD F sc_is_fraction (g_is_fraction c) (fun _ _ _ _ _ _ us hl => match us, hl with | [_], _ => rfl) fun cdv A outer s H E hr tk po => ?_
  have nd := sc_is_fraction.nd
  exact (sd_cons (sd_if (PW.pt (wd_or (td_not (td_val (pd_is0 rfl (n_isinstance c) (ad_cons (pd_v 0) (ad_cons (pd_blt rfl (n_tuple c) (by decide +kernel)) ad_nil))))) (wd_or (td_ne hr (pd_len rfl (n_len c) (ad_cons (pd_v 0) ad_nil)) pd_int) (wd_or1 (td_not (td_val (pd_all rfl rfl (n_all c) (ad_cons (pd_val (by exact (pd_lc (own := [("part", 1)]) rfl nd (id_seq (pd_v 0)) (blkOk_by (N := sl_is_fraction) (sc := defScope st_is_fraction) (own := [("part", 1)]) (by decide +kernel)) (by exact fun _ _ _ _ _ => (pg_name (i := 1) nd rfl (by first | exact Or.inl rfl | exact Or.inr rfl))) tk_name (by decide) (by exact fun _ _ _ _ _ => tds_nil) (by exact fun _ _ _ _ _ => (pd_cal (c_is_whole c) hr (by decide) tk0 rfl (ad_cons (pd_v 1) ad_nil) (aC_len aN_len)))))) ad_nil))))))))
   (sd_one (sd_ret pd_bl))
   sd_nil)
  (sd_one (sd_ret (pd_and (pd_gt (pd_at (pd_v 0) pd_int) pd_int) (pd_one (pd_eq hr (pd_cal (c_common c) hr (by decide) tk rfl (ad_cons (pd_at (pd_v 0) pd_int) (ad_cons (pd_at (pd_v 0) pd_int) ad_nil)) (aC_len (aC_len aN_len))) pd_int))))))
abbrev sl_is_weight : List Str := ["thing"]
noncomputable def b_is_weight : FS :=
  (sRet (eAnd (eA m_is_fraction (aC (eV 0) aN)) (e2 oGt (e2 oIx (eV 0) (eC (.int 0))) (eC (.int 0)))))
noncomputable def m_is_weight : FM := run 1 b_is_weight
theorem sc_is_weight : FnScope sl_is_weight ["thing"] (defScope st_is_weight) := ⟨rfl, rfl, rfl, by decide +kernel, rfl, by decide +kernel, by decide +kernel⟩
theorem c_is_weight (c : Fx K mg) : CallD P w K mg base "is_weight" 3 1 m_is_weight := by
  obtain ⟨fd, F⟩ := f_is_weight c
  refine mkD F sc_is_weight (g_is_weight c) (fun _ _ _ _ _ _ us hl => match us, hl with | [_], _ => rfl) fun cdv A outer s H E hr tk po => ?_
  have nd := sc_is_weight.nd
  exact (sd_one (sd_ret (pd_and (pd_cal (c_is_fraction c) hr (by decide) tk rfl (ad_cons (pd_v 0) ad_nil) (aC_len aN_len)) (pd_one (pd_gt (pd_at (pd_v 0) pd_int) pd_int)))))
abbrev sl_are_weights : List Str := ["thing", "one"]
noncomputable def b_are_weights : FS :=
  (sSeq (sIf (tOr (tNot (tB (eIsT noK (eV 0) (aC (eC (.ty "list")) (aC (eC (.ty "tuple")) aN))))) (tNot (tB (eChain oLe oLe (eC (.int 1)) (eA oLen (aC (eV 0) aN)) (eC (.int 12)))))) (sRet (eC (.bl false))) sNx)
  (sRet (eA (oAll false) (aC (eLc (fiSeq (eV 0)) (gN 1) [1] tTrue (eA m_is_weight (aC (eV 1) aN))) aN))))
noncomputable def m_are_weights : FM := run 2 b_are_weights
theorem sc_are_weights : FnScope sl_are_weights ["thing"] (defScope st_are_weights) := ⟨rfl, rfl, rfl, by decide +kernel, rfl, by decide +kernel, by decide +kernel⟩
theorem c_are_weights (c : Fx K mg) : CallD P w K mg base "are_weights" 4 1 m_are_weights := by
  obtain ⟨fd, F⟩ := f_are_weights c
  refine mkD F sc_are_weights (g_are_weights c) (fun _ _ _ _ _ _ us hl => match us, hl with | [_], _ => rfl) fun cdv A outer s H E hr tk po => ?_
  have nd := sc_are_weights.nd
  exact (sd_cons (sd_if (PW.pt (wd_or (td_not (td_val (pd_isT noK_ok rfl (n_isinstance c) (pd_v 0) (ad_cons (pd_blt rfl (n_list c) (by decide +kernel)) (ad_cons (pd_blt rfl (n_tuple c) (by decide +kernel)) ad_nil))))) (wd_or1 (td_not (td_chain op_le (og_I0 fun _ _ _ _ _ => rfl) op_le (og_I0 fun _ _ _ _ _ => rfl) pd_int (pd_len rfl (n_len c) (ad_cons (pd_v 0) ad_nil)) (pd_gI rfl (i_MOST_WEIGHTS c)))))))
   (sd_one (sd_ret pd_bl))
   sd_nil)
  (sd_one (sd_ret (pd_all rfl rfl (n_all c) (ad_cons (pd_val (by exact (pd_lc (own := [("one", 1)]) rfl nd (id_seq (pd_v 0)) (blkOk_by (N := sl_are_weights) (sc := defScope st_are_weights) (own := [("one", 1)]) (by decide +kernel)) (by exact fun _ _ _ _ _ => (pg_name (i := 1) nd rfl (by first | exact Or.inl rfl | exact Or.inr rfl))) tk_name (by decide) (by exact fun _ _ _ _ _ => tds_nil) (by exact fun _ _ _ _ _ => (pd_cal (c_is_weight c) hr (by decide) tk0 rfl (ad_cons (pd_v 1) ad_nil) (aC_len aN_len)))))) ad_nil)))))
abbrev sl_floor_of : List Str := ["one"]
noncomputable def b_floor_of : FS :=
  (sRet (e2 oDiv (e2 oIx (eV 0) (eC (.int 0))) (e2 oIx (eV 0) (eC (.int 1)))))
noncomputable def m_floor_of : FM := run 1 b_floor_of
theorem sc_floor_of : FnScope sl_floor_of ["one"] (defScope st_floor_of) := ⟨rfl, rfl, rfl, by decide +kernel, rfl, by decide +kernel, by decide +kernel⟩
theorem c_floor_of (c : Fx K mg) : CallD P w K mg base "floor_of" 1 1 m_floor_of := by
  obtain ⟨fd, F⟩ := f_floor_of c
  refine mkD F sc_floor_of (g_floor_of c) (fun _ _ _ _ _ _ us hl => match us, hl with | [_], _ => rfl) fun cdv A outer s H E hr tk po => ?_
  have nd := sc_floor_of.nd
  exact (sd_one (sd_ret (pd_div (pd_at (pd_v 0) pd_int) (pd_at (pd_v 0) pd_int))))
abbrev sl_many_of : List Str := ["weights", "step", "many"]
noncomputable def b_many_of : FS :=
  (sSeq (sIf (tNot (tB (eA m_are_weights (aC (eV 0) aN)))) (sRaise ⟨"NoWeights", none⟩) sNx)
  (sSeq (sIf (tNot (tB (eA m_is_weight (aC (eV 1) aN)))) (sRaise ⟨"NoStep", none⟩) sNx)
  (sSeq (sSet 2 (eA m_floor_of (aC (eA m_over (aC (eA m_sum_of (aC (eV 0) aN)) (aC (eV 1) aN))) aN)))
  (sSeq (sIf (tB (e2 (oEq false) (eV 2) (eC (.int 0)))) (sRaise ⟨"TooLittle", none⟩) sNx)
  (sRet (eV 2))))))
noncomputable def m_many_of : FM := run 3 b_many_of
theorem sc_many_of : FnScope sl_many_of ["weights", "step"] (defScope st_many_of) := ⟨rfl, rfl, rfl, by decide +kernel, rfl, by decide +kernel, by decide +kernel⟩
theorem c_many_of (c : Fx K mg) : CallD P w K mg base "many_of" 5 2 m_many_of := by
  obtain ⟨fd, F⟩ := f_many_of c
  refine mkD F sc_many_of (g_many_of c) (fun _ _ _ _ _ _ us hl => match us, hl with | [_, _], _ => rfl) fun cdv A outer s H E hr tk po => ?_
  have nd := sc_many_of.nd
  exact (sd_cons (sd_if (td_not (td_val (pd_cal (c_are_weights c) hr (by decide) tk rfl (ad_cons (pd_v 0) ad_nil) (aC_len aN_len))))
   (sd_one ((pd_raise0' rfl tk (x_NoWeights c) (g_NoWeights c) rfl)))
   sd_nil)
  (sd_cons (sd_if (td_not (td_val (pd_cal (c_is_weight c) hr (by decide) tk rfl (ad_cons (pd_v 1) ad_nil) (aC_len aN_len))))
   (sd_one ((pd_raise0' rfl tk (x_NoStep c) (g_NoStep c) rfl)))
   sd_nil)
  (sd_cons (sd_set (i := 2) nd rfl (by first | exact Or.inl rfl | exact Or.inr rfl) (pd_cal (c_floor_of c) hr (by decide) tk rfl (ad_cons (pd_cal (c_over c) hr (by decide) tk rfl (ad_cons (pd_cal (c_sum_of c) hr (by decide) tk rfl (ad_cons (pd_v 0) ad_nil) (aC_len aN_len)) (ad_cons (pd_v 1) ad_nil)) (aC_len (aC_len aN_len))) ad_nil) (aC_len aN_len)))
  (sd_cons (sd_if (td_eq hr (pd_v 2) pd_int)
   (sd_one ((pd_raise0' rfl tk (x_TooLittle c) (g_TooLittle c) rfl)))
   sd_nil)
  (sd_one (sd_ret (pd_v 2)))))))
abbrev sl_aims : List Str := ["weights", "step", "many", "whole", "weight"]
noncomputable def b_aims : FS :=
  (sSeq (sSet 2 (eA m_fraction (aC (eA m_many_of (aC (eV 0) (aC (eV 1) aN))) (aC (eC (.int 1)) aN))))
  (sSeq (sSet 3 (eA m_sum_of (aC (eV 0) aN)))
  (sRet (eLc (fiSeq (eV 0)) (gN 4) [4] tTrue (eA m_times (aC (eA m_over (aC (eV 4) (aC (eV 3) aN))) (aC (eV 2) aN)))))))
noncomputable def m_aims : FM := run 5 b_aims
theorem sc_aims : FnScope sl_aims ["weights", "step"] (defScope st_aims) := ⟨rfl, rfl, rfl, by decide +kernel, rfl, by decide +kernel, by decide +kernel⟩
theorem c_aims (c : Fx K mg) : CallD P w K mg base "aims" 6 2 m_aims := by
  obtain ⟨fd, F⟩ := f_aims c
  refine mkD F sc_aims (g_aims c) (fun _ _ _ _ _ _ us hl => match us, hl with | [_, _], _ => rfl) fun cdv A outer s H E hr tk po => ?_
  have nd := sc_aims.nd
  exact (sd_cons (sd_set (i := 2) nd rfl (by first | exact Or.inl rfl | exact Or.inr rfl) (pd_cal (c_fraction c) hr (by decide) tk rfl (ad_cons (pd_cal (c_many_of c) hr (by decide) tk rfl (ad_cons (pd_v 0) (ad_cons (pd_v 1) ad_nil)) (aC_len (aC_len aN_len))) (ad_cons pd_int ad_nil)) (aC_len (aC_len aN_len))))
  (sd_cons (sd_set (i := 3) nd rfl (by first | exact Or.inl rfl | exact Or.inr rfl) (pd_cal (c_sum_of c) hr (by decide) tk rfl (ad_cons (pd_v 0) ad_nil) (aC_len aN_len)))
  (sd_one (sd_ret (pd_val (by exact (pd_lc (own := [("weight", 4)]) rfl nd (id_seq (pd_v 0)) (blkOk_by (N := sl_aims) (sc := defScope st_aims) (own := [("weight", 4)]) (by decide +kernel)) (by exact fun _ _ _ _ _ => (pg_name (i := 4) nd rfl (by first | exact Or.inl rfl | exact Or.inr rfl))) tk_name (by decide) (by exact fun _ _ _ _ _ => tds_nil) (by exact fun _ _ _ _ _ => (pd_cal (c_times c) hr (by decide) tk0 rfl (ad_cons (pd_cal (c_over c) hr (by decide) tk0 rfl (ad_cons (pd_v 4) (ad_cons (pd_v 3) ad_nil)) (aC_len (aC_len aN_len))) (ad_cons (pd_v 2) ad_nil)) (aC_len (aC_len aN_len)))))))))))
abbrev sl_rests_of : List Str := ["some", "one"]
noncomputable def b_rests_of : FS :=
  (sRet (eLc (fiSeq (eV 0)) (gN 1) [1] tTrue (eA m_minus (aC (eV 1) (aC (eA m_fraction (aC (eA m_floor_of (aC (eV 1) aN)) (aC (eC (.int 1)) aN))) aN)))))
noncomputable def m_rests_of : FM := run 2 b_rests_of
theorem sc_rests_of : FnScope sl_rests_of ["some"] (defScope st_rests_of) := ⟨rfl, rfl, rfl, by decide +kernel, rfl, by decide +kernel, by decide +kernel⟩
theorem c_rests_of (c : Fx K mg) : CallD P w K mg base "rests_of" 4 1 m_rests_of := by
  obtain ⟨fd, F⟩ := f_rests_of c
  refine mkD F sc_rests_of (g_rests_of c) (fun _ _ _ _ _ _ us hl => match us, hl with | [_], _ => rfl) fun cdv A outer s H E hr tk po => ?_
  have nd := sc_rests_of.nd
  exact (sd_one (sd_ret (pd_val (by exact (pd_lc (own := [("one", 1)]) rfl nd (id_seq (pd_v 0)) (blkOk_by (N := sl_rests_of) (sc := defScope st_rests_of) (own := [("one", 1)]) (by decide +kernel)) (by exact fun _ _ _ _ _ => (pg_name (i := 1) nd rfl (by first | exact Or.inl rfl | exact Or.inr rfl))) tk_name (by decide) (by exact fun _ _ _ _ _ => tds_nil) (by exact fun _ _ _ _ _ => (pd_cal (c_minus c) hr (by decide) tk0 rfl (ad_cons (pd_v 1) (ad_cons (pd_cal (c_fraction c) hr (by decide) tk0 rfl (ad_cons (pd_cal (c_floor_of c) hr (by decide) tk0 rfl (ad_cons (pd_v 1) ad_nil) (aC_len aN_len)) (ad_cons pd_int ad_nil)) (aC_len (aC_len aN_len))) ad_nil)) (aC_len (aC_len aN_len)))))))))
abbrev sl_many_up : List Str := ["some"]
noncomputable def b_many_up : FS :=
  (sRet (eA m_floor_of (aC (eA m_sum_of (aC (eA m_rests_of (aC (eV 0) aN)) aN)) aN)))
noncomputable def m_many_up : FM := run 1 b_many_up
theorem sc_many_up : FnScope sl_many_up ["some"] (defScope st_many_up) := ⟨rfl, rfl, rfl, by decide +kernel, rfl, by decide +kernel, by decide +kernel⟩
theorem c_many_up (c : Fx K mg) : CallD P w K mg base "many_up" 5 1 m_many_up := by
  obtain ⟨fd, F⟩ := f_many_up c
  refine mkD F sc_many_up (g_many_up c) (fun _ _ _ _ _ _ us hl => match us, hl with | [_], _ => rfl) fun cdv A outer s H E hr tk po => ?_
  have nd := sc_many_up.nd
  exact (sd_one (sd_ret (pd_cal (c_floor_of c) hr (by decide) tk rfl (ad_cons (pd_cal (c_sum_of c) hr (by decide) tk rfl (ad_cons (pd_cal (c_rests_of c) hr (by decide) tk rfl (ad_cons (pd_v 0) ad_nil) (aC_len aN_len)) ad_nil) (aC_len aN_len)) ad_nil) (aC_len aN_len))))
abbrev sl_greatest_of : List Str := ["rests", "left", "found", "place"]
noncomputable def b_greatest_of : FS :=
  (sSeq (sSet 2 (e2 oIx (eV 1) (eC (.int 0))))
  (sSeq (sFor (fiSeq (eV 1)) (gN 3) (sIf (tB (eA m_is_less (aC (e2 oIx (eV 0) (eV 2)) (aC (e2 oIx (eV 0) (eV 3)) aN)))) (sSet 2 (eV 3)) sNx))
  (sRet (eV 2))))
noncomputable def m_greatest_of : FM := run 4 b_greatest_of
theorem sc_greatest_of : FnScope sl_greatest_of ["rests", "left"] (defScope st_greatest_of) := ⟨rfl, rfl, rfl, by decide +kernel, rfl, by decide +kernel, by decide +kernel⟩
theorem c_greatest_of (c : Fx K mg) : CallD P w K mg base "greatest_of" 2 2 m_greatest_of := by
  obtain ⟨fd, F⟩ := f_greatest_of c
  refine mkD F sc_greatest_of (g_greatest_of c) (fun _ _ _ _ _ _ us hl => match us, hl with | [_, _], _ => rfl) fun cdv A outer s H E hr tk po => ?_
  have nd := sc_greatest_of.nd
  exact (sd_cons (sd_set (i := 2) nd rfl (by first | exact Or.inl rfl | exact Or.inr rfl) (pd_at (pd_v 1) pd_int))
  (sd_cons (sd_for po rfl (id_seq (pd_v 1)) (pg_name (i := 3) nd rfl (by first | exact Or.inl rfl | exact Or.inr rfl)) tk_name
   (sd_one (sd_if (td_val (pd_cal (c_is_less c) hr (by decide) tk rfl (ad_cons (pd_at (pd_v 0) (pd_v 2)) (ad_cons (pd_at (pd_v 0) (pd_v 3)) ad_nil)) (aC_len (aC_len aN_len))))
    (sd_one (sd_set (i := 2) nd rfl (by first | exact Or.inl rfl | exact Or.inr rfl) (pd_v 3)))
    sd_nil)))
  (sd_one (sd_ret (pd_v 2)))))
abbrev sl_places_up : List Str := ["some", "rests", "left", "found", "turn", "place"]
noncomputable def b_places_up : FS :=
  (sSeq (sSet 1 (eA m_rests_of (aC (eV 0) aN)))
  (sSeq (sSet 2 (eOwn (eListRng (aC (eA oLen (aC (eV 0) aN)) aN))))
  (sSeq (sSet 3 (eOwn (eA oLstN aN)))
  (sSeq (sFor (fiRng (aC (eA m_many_up (aC (eV 0) aN)) aN)) (gN 4) (sSeq (sSet 5 (eA m_greatest_of (aC (eV 1) (aC (eV 2) aN))))
   (sSeq (sExpr (eBM "list" oRemI (eV 2) (aC (eV 5) aN)))
   (sExpr (eBM "list" oAppend (eV 3) (aC (eV 5) aN))))))
  (sRet (eV 3))))))
noncomputable def m_places_up : FM := runF 6 b_places_up
theorem sc_places_up : FnScope sl_places_up ["some"] (defScope st_places_up) := ⟨rfl, rfl, rfl, by decide +kernel, rfl, by decide +kernel, by decide +kernel⟩
theorem c_places_up (c : Fx K mg) : CallF P w K mg base "places_up" 6 1 m_places_up := by
  obtain ⟨fd, F⟩ := f_places_up c
  refine mkF F sc_places_up (g_places_up c) (fun _ _ _ _ _ _ us hl => match us, hl with | [_], _ => rfl) fun cdv A outer s H E hr tk po => ?_
  have nd := sc_places_up.nd
  exact (sd_cons (sd_set (i := 1) nd rfl (by first | exact Or.inl rfl | exact Or.inr rfl) (pd_cal (c_rests_of c) hr (by decide) tk rfl (ad_cons (pd_v 0) ad_nil) (aC_len aN_len)))
  (sd_cons (sd_set (i := 2) nd rfl (by first | exact Or.inl rfl | exact Or.inr rfl) (pd_own (pd_listRng rfl rfl (n_list c) rfl (n_range c) (pd_len rfl (n_len c) (ad_cons (pd_v 0) ad_nil)))))
  (sd_cons (sd_set (i := 3) nd rfl (by first | exact Or.inl rfl | exact Or.inr rfl) (pd_own (pd_lstN ad_nil)))
  (sd_cons (sd_for po rfl (id_rng rfl (n_range c) (ad_cons (pd_cal (c_many_up c) hr (by decide) tk rfl (ad_cons (pd_v 0) ad_nil) (aC_len aN_len)) ad_nil)) (pg_name (i := 4) nd rfl (by first | exact Or.inl rfl | exact Or.inr rfl)) tk_name
   (sd_cons (sd_set (i := 5) nd rfl (by first | exact Or.inl rfl | exact Or.inr rfl) (pd_cal (c_greatest_of c) hr (by decide) tk rfl (ad_cons (pd_v 1) (ad_cons (pd_v 2) ad_nil)) (aC_len (aC_len aN_len))))
   (sd_cons (sd_expr (pd_remove (pd_v 2) (ad_cons (pd_v 5) ad_nil)))
   (sd_one (sd_expr (pd_append (pd_v 3) (ad_cons (pd_v 5) ad_nil)))))))
  (sd_one (sd_ret (pd_v 3)))))))
abbrev sl_apart : List Str := ["one", "other"]
noncomputable def b_apart : FS :=
  (sSeq (sIf (tB (eA m_is_less (aC (eV 0) (aC (eV 1) aN)))) (sRet (eA m_minus (aC (eV 1) (aC (eV 0) aN)))) sNx)
  (sRet (eA m_minus (aC (eV 0) (aC (eV 1) aN)))))
noncomputable def m_apart : FM := run 2 b_apart
theorem sc_apart : FnScope sl_apart ["one", "other"] (defScope st_apart) := ⟨rfl, rfl, rfl, by decide +kernel, rfl, by decide +kernel, by decide +kernel⟩
theorem c_apart (c : Fx K mg) : CallD P w K mg base "apart" 4 2 m_apart := by
  obtain ⟨fd, F⟩ := f_apart c
  refine mkD F sc_apart (g_apart c) (fun _ _ _ _ _ _ us hl => match us, hl with | [_, _], _ => rfl) fun cdv A outer s H E hr tk po => ?_
  have nd := sc_apart.nd
  exact (sd_cons (sd_if (td_val (pd_cal (c_is_less c) hr (by decide) tk rfl (ad_cons (pd_v 0) (ad_cons (pd_v 1) ad_nil)) (aC_len (aC_len aN_len))))
   (sd_one (sd_ret (pd_cal (c_minus c) hr (by decide) tk rfl (ad_cons (pd_v 1) (ad_cons (pd_v 0) ad_nil)) (aC_len (aC_len aN_len)))))
   sd_nil)
  (sd_one (sd_ret (pd_cal (c_minus c) hr (by decide) tk rfl (ad_cons (pd_v 0) (ad_cons (pd_v 1) ad_nil)) (aC_len (aC_len aN_len))))))
abbrev sl_worst_of : List Str := ["weights", "step", "counted", "found", "aim", "count", "far"]
noncomputable def b_worst_of : FS :=
  (sSeq (sSet 3 (eC (.tup [.int 0, .int 1])))
  (sSeq (sFor (fiZip (aC (eA m_aims (aC (eV 0) (aC (eV 1) aN))) (aC (eV 2) aN))) (gT [(gN 4), (gN 5)]) (sSeq (sSet 6 (eA m_apart (aC (eV 4) (aC (eA m_fraction (aC (eV 5) (aC (eC (.int 1)) aN))) aN))))
   (sIf (tB (eA m_is_less (aC (eV 3) (aC (eV 6) aN)))) (sSet 3 (eV 6)) sNx)))
  (sRet (eV 3))))
noncomputable def m_worst_of : FM := run 7 b_worst_of
theorem sc_worst_of : FnScope sl_worst_of ["weights", "step", "counted"] (defScope st_worst_of) := ⟨rfl, rfl, rfl, by decide +kernel, rfl, by decide +kernel, by decide +kernel⟩
theorem c_worst_of (c : Fx K mg) : CallD P w K mg base "worst_of" 7 3 m_worst_of := by
  obtain ⟨fd, F⟩ := f_worst_of c
  refine mkD F sc_worst_of (g_worst_of c) (fun _ _ _ _ _ _ us hl => match us, hl with | [_, _, _], _ => rfl) fun cdv A outer s H E hr tk po => ?_
  have nd := sc_worst_of.nd
  exact (sd_cons (sd_set (i := 3) nd rfl (by first | exact Or.inl rfl | exact Or.inr rfl) (pd_gT rfl (g_NOUGHT c) (t_NOUGHT c) (fun _ _ _ => ⟨_, _, rfl, rfl, ⟨_, _, rfl, rfl, rfl⟩⟩)))
  (sd_cons (sd_for po rfl (id_zip rfl (n_zip c) (ad_cons (pd_cal (c_aims c) hr (by decide) tk rfl (ad_cons (pd_v 0) (ad_cons (pd_v 1) ad_nil)) (aC_len (aC_len aN_len))) (ad_cons (pd_v 2) ad_nil))) (pg_tup rfl (pgs_cons (pg_name (i := 4) nd rfl (by first | exact Or.inl rfl | exact Or.inr rfl)) (pgs_cons (pg_name (i := 5) nd rfl (by first | exact Or.inl rfl | exact Or.inr rfl)) pgs_nil))) (tk_tup' (tks_cons tk_name (tks_cons tk_name tks_nil)))
   (sd_cons (sd_set (i := 6) nd rfl (by first | exact Or.inl rfl | exact Or.inr rfl) (pd_cal (c_apart c) hr (by decide) tk rfl (ad_cons (pd_v 4) (ad_cons (pd_cal (c_fraction c) hr (by decide) tk rfl (ad_cons (pd_v 5) (ad_cons pd_int ad_nil)) (aC_len (aC_len aN_len))) ad_nil)) (aC_len (aC_len aN_len))))
   (sd_one (sd_if (td_val (pd_cal (c_is_less c) hr (by decide) tk rfl (ad_cons (pd_v 3) (ad_cons (pd_v 6) ad_nil)) (aC_len (aC_len aN_len))))
    (sd_one (sd_set (i := 3) nd rfl (by first | exact Or.inl rfl | exact Or.inr rfl) (pd_v 6)))
    sd_nil))))
  (sd_one (sd_ret (pd_v 3)))))
abbrev sl_rounded : List Str := ["weights", "step", "some", "up", "counted", "place", "aim", "rest"]
noncomputable def b_rounded : FS :=
  (sSeq (sSet 2 (eA m_aims (aC (eV 0) (aC (eV 1) aN))))
  (sSeq (sSet 3 (eA m_places_up (aC (eV 2) aN)))
  (sSeq (sSet 4 (eLc (fiEnum (aC (eV 2) aN)) (gT [(gN 5), (gN 6)]) [5, 6] tTrue (e2 oAdd (eA m_floor_of (aC (eV 6) aN)) (eA oInt (aC (e2 (oIn false) (eV 5) (eV 3)) aN)))))
  (sSeq (sSet 7 (eA m_minus (aC (eA m_sum_of (aC (eV 0) aN)) (aC (eA m_times (aC (eV 1) (aC (eA m_fraction (aC (eA oSum (aC (eV 4) aN)) (aC (eC (.int 1)) aN))) aN))) aN))))
  (sRet (eA oTupN (aC (eV 4) (aC (eV 7) (aC (eA m_worst_of (aC (eV 0) (aC (eV 1) (aC (eV 4) aN)))) aN)))))))))
noncomputable def m_rounded : FM := run 8 b_rounded
theorem sc_rounded : FnScope sl_rounded ["weights", "step"] (defScope st_rounded) := ⟨rfl, rfl, rfl, by decide +kernel, rfl, by decide +kernel, by decide +kernel⟩
theorem c_rounded (c : Fx K mg) : CallD P w K mg base "rounded" 8 2 m_rounded := by
  obtain ⟨fd, F⟩ := f_rounded c
  refine mkD F sc_rounded (g_rounded c) (fun _ _ _ _ _ _ us hl => match us, hl with | [_, _], _ => rfl) fun cdv A outer s H E hr tk po => ?_
  have nd := sc_rounded.nd
  exact (sd_cons (sd_set (i := 2) nd rfl (by first | exact Or.inl rfl | exact Or.inr rfl) (pd_cal (c_aims c) hr (by decide) tk rfl (ad_cons (pd_v 0) (ad_cons (pd_v 1) ad_nil)) (aC_len (aC_len aN_len))))
  (sd_cons (sd_set (i := 3) nd rfl (by first | exact Or.inl rfl | exact Or.inr rfl) (pd_val (pd_calF (c_places_up c) hr (by decide) tk rfl (ad_cons (pd_v 2) ad_nil) (aC_len aN_len))))
  (sd_cons (sd_setLc (i := 4) (own := [("place", 5), ("aim", 6)]) rfl nd rfl rfl (sw_true rfl rfl rfl (by decide +kernel)) (id_enum rfl (n_enumerate c) (ad_cons (pd_v 2) ad_nil)) (blkOk_by (N := sl_rounded) (sc := defScope st_rounded) (own := [("place", 5), ("aim", 6)]) (by decide +kernel)) (by exact fun _ _ _ _ _ => (pg_tup rfl (pgs_cons (pg_name (i := 5) nd rfl (by first | exact Or.inl rfl | exact Or.inr rfl)) (pgs_cons (pg_name (i := 6) nd rfl (by first | exact Or.inl rfl | exact Or.inr rfl)) pgs_nil)))) (tk_tup' (tks_cons tk_name (tks_cons tk_name tks_nil))) (by decide) (by exact fun _ _ _ _ _ => tds_nil) (by exact fun _ _ _ _ _ => (pd_add (pd_cal (c_floor_of c) hr (by decide) tk0 rfl (ad_cons (pd_v 6) ad_nil) (aC_len aN_len)) (pd_toint rfl (n_int c) (ad_cons (pd_in (pd_v 5) (pd_v 3)) ad_nil)))))
  (sd_cons (sd_set (i := 7) nd rfl (by first | exact Or.inl rfl | exact Or.inr rfl) (pd_cal (c_minus c) hr (by decide) tk rfl (ad_cons (pd_cal (c_sum_of c) hr (by decide) tk rfl (ad_cons (pd_v 0) ad_nil) (aC_len aN_len)) (ad_cons (pd_cal (c_times c) hr (by decide) tk rfl (ad_cons (pd_v 1) (ad_cons (pd_cal (c_fraction c) hr (by decide) tk rfl (ad_cons (pd_sum rfl rfl (n_sum c) (ad_cons (pd_v 4) ad_nil)) (ad_cons pd_int ad_nil)) (aC_len (aC_len aN_len))) ad_nil)) (aC_len (aC_len aN_len))) ad_nil)) (aC_len (aC_len aN_len))))
  (sd_one (sd_ret (pd_tup (ad_cons (pd_v 4) (ad_cons (pd_v 7) (ad_cons (pd_cal (c_worst_of c) hr (by decide) tk rfl (ad_cons (pd_v 0) (ad_cons (pd_v 1) (ad_cons (pd_v 4) ad_nil))) (aC_len (aC_len (aC_len aN_len)))) ad_nil))))))))))
abbrev sl_paper : List Str := ["weights", "step", "bound", "rests", "up", "place", "rest", "down"]
noncomputable def b_paper : FS :=
  (sSeq (sSet 3 (eA m_rests_of (aC (eA m_aims (aC (eV 0) (aC (eV 1) aN))) aN)))
  (sSeq (sSet 4 (eLc (fiEnum (aC (eV 3) aN)) (gT [(gN 5), (gN 6)]) [5, 6] (tNot (tB (eA m_is_less (aC (eV 6) (aC (eV 2) aN))))) (eV 5)))
  (sSeq (sSet 7 (eLc (fiEnum (aC (eV 3) aN)) (gT [(gN 5), (gN 6)]) [5, 6] (tNot (tB (eA m_is_less (aC (eA m_minus (aC (eC (.tup [.int 1, .int 1])) (aC (eV 6) aN))) (aC (eV 2) aN))))) (eV 5)))
  (sRet (eA oTupN (aC (eV 4) (aC (eV 7) aN)))))))
noncomputable def m_paper : FM := run 8 b_paper
theorem sc_paper : FnScope sl_paper ["weights", "step", "bound"] (defScope st_paper) := ⟨rfl, rfl, rfl, by decide +kernel, rfl, by decide +kernel, by decide +kernel⟩
theorem c_paper (c : Fx K mg) : CallD P w K mg base "paper" 7 3 m_paper := by
  obtain ⟨fd, F⟩ := f_paper c
  refine mkD F sc_paper (g_paper c) (fun _ _ _ _ _ _ us hl => match us, hl with | [_, _, _], _ => rfl) fun cdv A outer s H E hr tk po => ?_
  have nd := sc_paper.nd
  exact (sd_cons (sd_set (i := 3) nd rfl (by first | exact Or.inl rfl | exact Or.inr rfl) (pd_cal (c_rests_of c) hr (by decide) tk rfl (ad_cons (pd_cal (c_aims c) hr (by decide) tk rfl (ad_cons (pd_v 0) (ad_cons (pd_v 1) ad_nil)) (aC_len (aC_len aN_len))) ad_nil) (aC_len aN_len)))
  (sd_cons (sd_setLc (i := 4) (own := [("place", 5), ("rest", 6)]) rfl nd rfl rfl (sw_true rfl rfl rfl (by decide +kernel)) (id_enum rfl (n_enumerate c) (ad_cons (pd_v 3) ad_nil)) (blkOk_by (N := sl_paper) (sc := defScope st_paper) (own := [("place", 5), ("rest", 6)]) (by decide +kernel)) (by exact fun _ _ _ _ _ => (pg_tup rfl (pgs_cons (pg_name (i := 5) nd rfl (by first | exact Or.inl rfl | exact Or.inr rfl)) (pgs_cons (pg_name (i := 6) nd rfl (by first | exact Or.inl rfl | exact Or.inr rfl)) pgs_nil)))) (tk_tup' (tks_cons tk_name (tks_cons tk_name tks_nil))) (by decide) (by exact fun _ _ _ _ _ => (tds_one (td_not (td_val (pd_cal (c_is_less c) hr (by decide) tk0 rfl (ad_cons (pd_v 6) (ad_cons (pd_v 2) ad_nil)) (aC_len (aC_len aN_len))))))) (by exact fun _ _ _ _ _ => (pd_v 5)))
  (sd_cons (sd_setLc (i := 7) (own := [("place", 5), ("rest", 6)]) rfl nd rfl rfl (sw_true rfl rfl rfl (by decide +kernel)) (id_enum rfl (n_enumerate c) (ad_cons (pd_v 3) ad_nil)) (blkOk_by (N := sl_paper) (sc := defScope st_paper) (own := [("place", 5), ("rest", 6)]) (by decide +kernel)) (by exact fun _ _ _ _ _ => (pg_tup rfl (pgs_cons (pg_name (i := 5) nd rfl (by first | exact Or.inl rfl | exact Or.inr rfl)) (pgs_cons (pg_name (i := 6) nd rfl (by first | exact Or.inl rfl | exact Or.inr rfl)) pgs_nil)))) (tk_tup' (tks_cons tk_name (tks_cons tk_name tks_nil))) (by decide) (by exact fun _ _ _ _ _ => (tds_one (td_not (td_val (pd_cal (c_is_less c) hr (by decide) tk0 rfl (ad_cons (pd_cal (c_minus c) hr (by decide) tk0 rfl (ad_cons (pd_gT rfl (g_ONE c) (t_ONE c) (fun _ _ _ => ⟨_, _, rfl, rfl, ⟨_, _, rfl, rfl, rfl⟩⟩)) (ad_cons (pd_v 6) ad_nil)) (aC_len (aC_len aN_len))) (ad_cons (pd_v 2) ad_nil)) (aC_len (aC_len aN_len))))))) (by exact fun _ _ _ _ _ => (pd_v 5)))
  (sd_one (sd_ret (pd_tup (ad_cons (pd_v 4) (ad_cons (pd_v 7) ad_nil))))))))
abbrev sl_are_places : List Str := ["thing", "one"]
noncomputable def b_are_places : FS :=
  (sRet (eAnd (eA (oIs noK) (aC (eV 0) (aC (eC (.ty "list")) aN))) (eA (oAll false) (aC (eLc (fiSeq (eV 0)) (gN 1) [1] tTrue (eAnd (eA (oIs noK) (aC (eV 1) (aC (eC (.ty "int")) aN))) (e1 oNot (eA (oIs noK) (aC (eV 1) (aC (eC (.ty "bool")) aN)))))) aN))))
noncomputable def m_are_places : FM := run 2 b_are_places
theorem sc_are_places : FnScope sl_are_places ["thing"] (defScope st_are_places) := ⟨rfl, rfl, rfl, by decide +kernel, rfl, by decide +kernel, by decide +kernel⟩
theorem c_are_places (c : Fx K mg) : CallD P w K mg base "are_places" 1 1 m_are_places := by
  obtain ⟨fd, F⟩ := f_are_places c
  refine mkD F sc_are_places (g_are_places c) (fun _ _ _ _ _ _ us hl => match us, hl with | [_], _ => rfl) fun cdv A outer s H E hr tk po => ?_
  have nd := sc_are_places.nd
  exact (sd_one (sd_ret (pd_and (pd_is0 rfl (n_isinstance c) (ad_cons (pd_v 0) (ad_cons (pd_blt rfl (n_list c) (by decide +kernel)) ad_nil))) (pd_one (pd_all rfl rfl (n_all c) (ad_cons (pd_val (by exact (pd_lc (own := [("one", 1)]) rfl nd (id_seq (pd_v 0)) (blkOk_by (N := sl_are_places) (sc := defScope st_are_places) (own := [("one", 1)]) (by decide +kernel)) (by exact fun _ _ _ _ _ => (pg_name (i := 1) nd rfl (by first | exact Or.inl rfl | exact Or.inr rfl))) tk_name (by decide) (by exact fun _ _ _ _ _ => tds_nil) (by exact fun _ _ _ _ _ => (pd_and (pd_is0 rfl (n_isinstance c) (ad_cons (pd_v 1) (ad_cons (pd_blt rfl (n_int c) (by decide +kernel)) ad_nil))) (pd_one (pd_not (pd_is0 rfl (n_isinstance c) (ad_cons (pd_v 1) (ad_cons (pd_blt rfl (n_bool c) (by decide +kernel)) ad_nil)))))))))) ad_nil))))))
abbrev sl_shows : List Str := ["weights", "step", "bound", "thing", "own", "one", "up", "down", "many", "place"]
noncomputable def b_shows : FS :=
  (sSeq (sSet 4 (eA m_paper (aC (eV 0) (aC (eV 1) (aC (eV 2) aN)))))
  (sSeq (sIf (tOr (tNot (tB (eA (oIs noK) (aC (eV 3) (aC (eC (.ty "tuple")) aN))))) (tOr (tB (e2 (oEq true) (eA oLen (aC (eV 3) aN)) (eC (.int 2)))) (tNot (tB (eA (oAll false) (aC (eLc (fiSeq (eV 3)) (gN 5) [5] tTrue (eA m_are_places (aC (eV 5) aN))) aN)))))) (sRet (eC (.bl false))) sNx)
  (sSeq (sIf (tB (e2 (oEq true) (eV 3) (eV 4))) (sRet (eC (.bl false))) sNx)
  (sSeq (sAsg (eV 4) (aT 2 (asC (aN' 6) (asC (aN' 7) asN))))
  (sSeq (sSet 8 (eA m_many_up (aC (eA m_aims (aC (eV 0) (aC (eV 1) aN))) aN)))
  (sRet (eOr (eA (oAll true) (aC (eLc (fiSeq (eV 6)) (gN 9) [9] tTrue (e2 (oIn false) (eV 9) (eV 7))) aN)) (eOr (e2 oGt (eA oLen (aC (eV 6) aN)) (eV 8)) (e2 oLt (e2 oSub (eA oLen (aC (eV 0) aN)) (eA oLen (aC (eV 7) aN))) (eV 8))))))))))
noncomputable def m_shows : FM := run 10 b_shows
theorem sc_shows : FnScope sl_shows ["weights", "step", "bound", "thing"] (defScope st_shows) := ⟨rfl, rfl, rfl, by decide +kernel, rfl, by decide +kernel, by decide +kernel⟩
theorem c_shows (c : Fx K mg) : CallD P w K mg base "shows" 8 4 m_shows := by
  obtain ⟨fd, F⟩ := f_shows c
  refine mkD F sc_shows (g_shows c) (fun _ _ _ _ _ _ us hl => match us, hl with | [_, _, _, _], _ => rfl) fun cdv A outer s H E hr tk po => ?_
  have nd := sc_shows.nd
  exact (sd_cons (sd_set (i := 4) nd rfl (by first | exact Or.inl rfl | exact Or.inr rfl) (pd_cal (c_paper c) hr (by decide) tk rfl (ad_cons (pd_v 0) (ad_cons (pd_v 1) (ad_cons (pd_v 2) ad_nil))) (aC_len (aC_len (aC_len aN_len)))))
  (sd_cons (sd_if (PW.pt (wd_or (td_not (td_val (pd_is0 rfl (n_isinstance c) (ad_cons (pd_v 3) (ad_cons (pd_blt rfl (n_tuple c) (by decide +kernel)) ad_nil))))) (wd_or (td_ne hr (pd_len rfl (n_len c) (ad_cons (pd_v 3) ad_nil)) pd_int) (wd_or1 (td_not (td_val (pd_all rfl rfl (n_all c) (ad_cons (pd_val (by exact (pd_lc (own := [("one", 5)]) rfl nd (id_seq (pd_v 3)) (blkOk_by (N := sl_shows) (sc := defScope st_shows) (own := [("one", 5)]) (by decide +kernel)) (by exact fun _ _ _ _ _ => (pg_name (i := 5) nd rfl (by first | exact Or.inl rfl | exact Or.inr rfl))) tk_name (by decide) (by exact fun _ _ _ _ _ => tds_nil) (by exact fun _ _ _ _ _ => (pd_cal (c_are_places c) hr (by decide) tk0 rfl (ad_cons (pd_v 5) ad_nil) (aC_len aN_len)))))) ad_nil))))))))
   (sd_one (sd_ret pd_bl))
   sd_nil)
  (sd_cons (sd_if (td_ne hr (pd_v 3) (pd_v 4))
   (sd_one (sd_ret pd_bl))
   sd_nil)
  (sd_cons (sd_asg (pd_v 4) (pg_tup rfl (pgs_cons (pg_name (i := 6) nd rfl (by first | exact Or.inl rfl | exact Or.inr rfl)) (pgs_cons (pg_name (i := 7) nd rfl (by first | exact Or.inl rfl | exact Or.inr rfl)) pgs_nil))) (ta_tup (tas_cons ta_name (tas_cons ta_name tas_nil))))
  (sd_cons (sd_set (i := 8) nd rfl (by first | exact Or.inl rfl | exact Or.inr rfl) (pd_cal (c_many_up c) hr (by decide) tk rfl (ad_cons (pd_cal (c_aims c) hr (by decide) tk rfl (ad_cons (pd_v 0) (ad_cons (pd_v 1) ad_nil)) (aC_len (aC_len aN_len))) ad_nil) (aC_len aN_len)))
  (sd_one (sd_ret (pd_or (pd_any rfl rfl (n_any c) (ad_cons (pd_val (by exact (pd_lc (own := [("place", 9)]) rfl nd (id_seq (pd_v 6)) (blkOk_by (N := sl_shows) (sc := defScope st_shows) (own := [("place", 9)]) (by decide +kernel)) (by exact fun _ _ _ _ _ => (pg_name (i := 9) nd rfl (by first | exact Or.inl rfl | exact Or.inr rfl))) tk_name (by decide) (by exact fun _ _ _ _ _ => tds_nil) (by exact fun _ _ _ _ _ => (pd_in (pd_v 9) (pd_v 7)))))) ad_nil)) (pd_or (pd_gt (pd_len rfl (n_len c) (ad_cons (pd_v 6) ad_nil)) (pd_v 8)) (pd_one (pd_lt (pd_sub (pd_len rfl (n_len c) (ad_cons (pd_v 0) ad_nil)) (pd_len rfl (n_len c) (ad_cons (pd_v 7) ad_nil))) (pd_v 8))))))))))))
abbrev sl_w_cell : List Str := ["_law_script", "_law_k"]
noncomputable def b_w_cell : FS :=
  (sRet (eIf (tB (e2 oLt (eV 1) (eA oLen (aC (eV 0) aN)))) (e2 oIx (eV 0) (eV 1)) (eC (.int 0))))
noncomputable def m_w_cell : FM := run 2 b_w_cell
theorem sc_w_cell : FnScope sl_w_cell ["_law_script", "_law_k"] (defScope st_w_cell) := ⟨rfl, rfl, rfl, by decide +kernel, rfl, by decide +kernel, by decide +kernel⟩
theorem c_w_cell (c : Fx K mg) : CallD P w K mg base "_law_cell" 1 2 m_w_cell := by
  obtain ⟨fd, F⟩ := f_w_cell c
  refine mkD F sc_w_cell (g_w_cell c) (fun _ _ _ _ _ _ us hl => match us, hl with | [_, _], _ => rfl) fun cdv A outer s H E hr tk po => ?_
  have nd := sc_w_cell.nd
  exact (sd_one (sd_ret (pd_if (td_lt (pd_v 1) (pd_len rfl (n_len c) (ad_cons (pd_v 0) ad_nil))) (pd_at (pd_v 0) (pd_v 1)) pd_int)))
abbrev sl_w_pot : List Str := ["_law_cell_here"]
noncomputable def b_w_pot : FS :=
  (sRet (eOwn (eA oLstN (aC (eA oMax2 (aC (eC (.int 0)) (aC (e2 oSub (eV 0) (e2 oPow (eC (.int 10)) (eC (.int 18)))) aN))) (aC (e2 oMod (e2 oAdd (e2 oMul (e2 oMod (eV 0) (eC (.int 2147483629))) (eC (.int 48271))) (eC (.int 7919))) (eC (.int 2147483647))) aN)))))
noncomputable def m_w_pot : FM := runF 1 b_w_pot
theorem sc_w_pot : FnScope sl_w_pot ["_law_cell_here"] (defScope st_w_pot) := ⟨rfl, rfl, rfl, by decide +kernel, rfl, by decide +kernel, by decide +kernel⟩
theorem c_w_pot (c : Fx K mg) : CallF P w K mg base "_law_pot" 1 1 m_w_pot := by
  obtain ⟨fd, F⟩ := f_w_pot c
  refine mkF F sc_w_pot (g_w_pot c) (fun _ _ _ _ _ _ us hl => match us, hl with | [_], _ => rfl) fun cdv A outer s H E hr tk po => ?_
  have nd := sc_w_pot.nd
  exact (sd_one (sd_ret (pd_own (pd_lstN (ad_cons (pd_max rfl rfl (n_max c) (ad_cons pd_int (ad_cons (pd_sub (pd_v 0) (pd_pow pd_int pd_int)) ad_nil))) (ad_cons (pd_mod (pd_add (pd_mul (pd_mod (pd_v 0) pd_int) pd_int) pd_int) pd_int) ad_nil))))))
abbrev sl_w_draw : List Str := ["_law_pot_here", "_law_many", "_law_digit"]
noncomputable def b_w_draw : FS :=
  (sSeq (sIf (tB (e2 oGt (e2 oIx (eV 0) (eC (.int 0))) (eC (.int 0)))) (sSeq (sAsg (eA oDivmod (aC (e2 oIx (eV 0) (eC (.int 0))) (aC (eV 1) aN))) (aT 2 (asC (aSub (eV 0) (eC (.int 0)) sLst) (asC (aN' 2) asN))))
   (sRet (eV 2))) sNx)
  (sSeq (sAsg (e2 oMod (e2 oAdd (e2 oMul (e2 oIx (eV 0) (eC (.int 1))) (eC (.int 39373))) (eC (.int 8191))) (eC (.int 2147483587))) (aSub (eV 0) (eC (.int 1)) sLst))
  (sRet (e2 oMod (e2 oDiv (e2 oMod (e2 oMul (e2 oIx (eV 0) (eC (.int 1))) (e2 oIx (eV 0) (eC (.int 1)))) (eC (.int 2147483543))) (eC (.int 13))) (eV 1)))))
noncomputable def m_w_draw : FM := run 3 b_w_draw
theorem sc_w_draw : FnScope sl_w_draw ["_law_pot_here", "_law_many"] (defScope st_w_draw) := ⟨rfl, rfl, rfl, by decide +kernel, rfl, by decide +kernel, by decide +kernel⟩
theorem c_w_draw (c : Fx K mg) : CallD P w K mg base "_law_draw" 1 2 m_w_draw := by
  obtain ⟨fd, F⟩ := f_w_draw c
  refine mkD F sc_w_draw (g_w_draw c) (fun _ _ _ _ _ _ us hl => match us, hl with | [_, _], _ => rfl) fun cdv A outer s H E hr tk po => ?_
  have nd := sc_w_draw.nd
  exact (sd_cons (sd_if (td_gt (pd_at (pd_v 0) pd_int) pd_int)
   (sd_cons (sd_asg (pd_divmod rfl (n_divmod c) (ad_cons (pd_at (pd_v 0) pd_int) (ad_cons (pd_v 1) ad_nil))) (pg_tup rfl (pgs_cons (pg_sub (pd_v 0) pd_int set_list) (pgs_cons (pg_name (i := 2) nd rfl (by first | exact Or.inl rfl | exact Or.inr rfl)) pgs_nil))) (ta_tup (tas_cons (ta_sub sg_list) (tas_cons ta_name tas_nil))))
   (sd_one (sd_ret (pd_v 2))))
   sd_nil)
  (sd_cons (sd_asg (pd_mod (pd_add (pd_mul (pd_at (pd_v 0) pd_int) pd_int) pd_int) pd_int) (pg_sub (pd_v 0) pd_int set_list) (ta_sub sg_list))
  (sd_one (sd_ret (pd_mod (pd_div (pd_mod (pd_mul (pd_at (pd_v 0) pd_int) (pd_at (pd_v 0) pd_int)) pd_int) pd_int) (pd_v 1))))))
abbrev sl_w_low : List Str := ["_law_top", "_law_bottom", "_law_one", "_law_other"]
noncomputable def b_w_low : FS :=
  (sSeq (sPar 2 3 (aC (eA oAbs (aC (eV 0) aN)) (aC (eA oAbs (aC (eV 1) aN)) aN)))
  (sSeq (sWh (tB (e2 oGt (eV 3) (eC (.int 0)))) (sPar 2 3 (aC (eV 3) (aC (e2 oMod (eV 2) (eV 3)) aN))))
  (sSeq (sIf (tB (e2 oLt (eV 1) (eC (.int 0)))) (sSet 2 (e1 oNeg (eV 2))) sNx)
  (sRet (eA oTupN (aC (e2 oDiv (eV 0) (eV 2)) (aC (e2 oDiv (eV 1) (eV 2)) aN)))))))
noncomputable def m_w_low : FM := run 4 b_w_low
theorem sc_w_low : FnScope sl_w_low ["_law_top", "_law_bottom"] (defScope st_w_low) := ⟨rfl, rfl, rfl, by decide +kernel, rfl, by decide +kernel, by decide +kernel⟩
theorem c_w_low (c : Fx K mg) : CallD P w K mg base "_law_low" 1 2 m_w_low := by
  obtain ⟨fd, F⟩ := f_w_low c
  refine mkD F sc_w_low (g_w_low c) (fun _ _ _ _ _ _ us hl => match us, hl with | [_, _], _ => rfl) fun cdv A outer s H E hr tk po => ?_
  have nd := sc_w_low.nd
  exact (sd_cons (sd_par (i := 2) (j := 3) rfl nd rfl rfl (by decide) rfl rfl (ad_cons (pd_abs rfl (n_abs c) (ad_cons (pd_v 0) ad_nil)) (ad_cons (pd_abs rfl (n_abs c) (ad_cons (pd_v 1) ad_nil)) ad_nil)) (by rfl))
  (sd_cons (sd_wh po (td_gt (pd_v 3) pd_int)
   (sd_one (sd_par (i := 2) (j := 3) rfl nd rfl rfl (by decide) rfl rfl (ad_cons (pd_v 3) (ad_cons (pd_mod (pd_v 2) (pd_v 3)) ad_nil)) (by rfl))))
  (sd_cons (sd_if (td_lt (pd_v 1) pd_int)
   (sd_one (sd_set (i := 2) nd rfl (by first | exact Or.inl rfl | exact Or.inr rfl) (pd_neg (pd_v 2))))
   sd_nil)
  (sd_one (sd_ret (pd_tup (ad_cons (pd_div (pd_v 0) (pd_v 2)) (ad_cons (pd_div (pd_v 1) (pd_v 2)) ad_nil))))))))
abbrev sl_w_sum : List Str := ["_law_one", "_law_other"]
noncomputable def b_w_sum : FS :=
  (sRet (eA m_w_low (aC (e2 oAdd (e2 oMul (e2 oIx (eV 0) (eC (.int 0))) (e2 oIx (eV 1) (eC (.int 1)))) (e2 oMul (e2 oIx (eV 1) (eC (.int 0))) (e2 oIx (eV 0) (eC (.int 1))))) (aC (e2 oMul (e2 oIx (eV 0) (eC (.int 1))) (e2 oIx (eV 1) (eC (.int 1)))) aN))))
noncomputable def m_w_sum : FM := run 2 b_w_sum
theorem sc_w_sum : FnScope sl_w_sum ["_law_one", "_law_other"] (defScope st_w_sum) := ⟨rfl, rfl, rfl, by decide +kernel, rfl, by decide +kernel, by decide +kernel⟩
theorem c_w_sum (c : Fx K mg) : CallD P w K mg base "_law_sum" 2 2 m_w_sum := by
  obtain ⟨fd, F⟩ := f_w_sum c
  refine mkD F sc_w_sum (g_w_sum c) (fun _ _ _ _ _ _ us hl => match us, hl with | [_, _], _ => rfl) fun cdv A outer s H E hr tk po => ?_
  have nd := sc_w_sum.nd
  exact (sd_one (sd_ret (pd_cal (c_w_low c) hr (by decide) tk rfl (ad_cons (pd_add (pd_mul (pd_at (pd_v 0) pd_int) (pd_at (pd_v 1) pd_int)) (pd_mul (pd_at (pd_v 1) pd_int) (pd_at (pd_v 0) pd_int))) (ad_cons (pd_mul (pd_at (pd_v 0) pd_int) (pd_at (pd_v 1) pd_int)) ad_nil)) (aC_len (aC_len aN_len)))))
abbrev sl_w_total : List Str := ["_law_some_here", "_law_found", "_law_one"]
noncomputable def b_w_total : FS :=
  (sSeq (sSet 1 (eA oTupN (aC (eC (.int 0)) (aC (eC (.int 1)) aN))))
  (sSeq (sFor (fiSeq (eV 0)) (gN 2) (sSet 1 (eA m_w_sum (aC (eV 1) (aC (eV 2) aN)))))
  (sRet (eV 1))))
noncomputable def m_w_total : FM := run 3 b_w_total
theorem sc_w_total : FnScope sl_w_total ["_law_some_here"] (defScope st_w_total) := ⟨rfl, rfl, rfl, by decide +kernel, rfl, by decide +kernel, by decide +kernel⟩
theorem c_w_total (c : Fx K mg) : CallD P w K mg base "_law_total" 3 1 m_w_total := by
  obtain ⟨fd, F⟩ := f_w_total c
  refine mkD F sc_w_total (g_w_total c) (fun _ _ _ _ _ _ us hl => match us, hl with | [_], _ => rfl) fun cdv A outer s H E hr tk po => ?_
  have nd := sc_w_total.nd
  exact (sd_cons (sd_set (i := 1) nd rfl (by first | exact Or.inl rfl | exact Or.inr rfl) (pd_tup (ad_cons pd_int (ad_cons pd_int ad_nil))))
  (sd_cons (sd_for po rfl (id_seq (pd_v 0)) (pg_name (i := 2) nd rfl (by first | exact Or.inl rfl | exact Or.inr rfl)) tk_name
   (sd_one (sd_set (i := 1) nd rfl (by first | exact Or.inl rfl | exact Or.inr rfl) (pd_cal (c_w_sum c) hr (by decide) tk rfl (ad_cons (pd_v 1) (ad_cons (pd_v 2) ad_nil)) (aC_len (aC_len aN_len))))))
  (sd_one (sd_ret (pd_v 1)))))
abbrev sl_w_some : List Str := ["_law_pot_here"]
noncomputable def b_w_some : FS :=
  (sSeq (sIf (tB (e2 (oEq false) (eA m_w_draw (aC (eV 0) (aC (eC (.int 2)) aN))) (eC (.int 0)))) (sRet (eA m_w_low (aC (e2 oAdd (eC (.int 1)) (eA m_w_draw (aC (eV 0) (aC (eC (.int 40)) aN)))) (aC (e2 oAdd (eC (.int 1)) (eA m_w_draw (aC (eV 0) (aC (eC (.int 12)) aN)))) aN)))) sNx)
  (sRet (eA m_w_low (aC (e2 oAdd (eC (.int 1)) (eA m_w_draw (aC (eV 0) (aC (e2 oSub (e2 oPow (eC (.int 10)) (eC (.int 12))) (eC (.int 1))) aN)))) (aC (e2 oAdd (eC (.int 1)) (eA m_w_draw (aC (eV 0) (aC (e2 oSub (e2 oPow (eC (.int 10)) (eC (.int 12))) (eC (.int 1))) aN)))) aN)))))
noncomputable def m_w_some : FM := run 1 b_w_some
theorem sc_w_some : FnScope sl_w_some ["_law_pot_here"] (defScope st_w_some) := ⟨rfl, rfl, rfl, by decide +kernel, rfl, by decide +kernel, by decide +kernel⟩
theorem c_w_some (c : Fx K mg) : CallD P w K mg base "_law_some" 2 1 m_w_some := by
  obtain ⟨fd, F⟩ := f_w_some c
  refine mkD F sc_w_some (g_w_some c) (fun _ _ _ _ _ _ us hl => match us, hl with | [_], _ => rfl) fun cdv A outer s H E hr tk po => ?_
  have nd := sc_w_some.nd
  exact (sd_cons (sd_if (td_eq hr (pd_cal (c_w_draw c) hr (by decide) tk rfl (ad_cons (pd_v 0) (ad_cons pd_int ad_nil)) (aC_len (aC_len aN_len))) pd_int)
   (sd_one (sd_ret (pd_cal (c_w_low c) hr (by decide) tk rfl (ad_cons (pd_add pd_int (pd_cal (c_w_draw c) hr (by decide) tk rfl (ad_cons (pd_v 0) (ad_cons pd_int ad_nil)) (aC_len (aC_len aN_len)))) (ad_cons (pd_add pd_int (pd_cal (c_w_draw c) hr (by decide) tk rfl (ad_cons (pd_v 0) (ad_cons pd_int ad_nil)) (aC_len (aC_len aN_len)))) ad_nil)) (aC_len (aC_len aN_len)))))
   sd_nil)
  (sd_one (sd_ret (pd_cal (c_w_low c) hr (by decide) tk rfl (ad_cons (pd_add pd_int (pd_cal (c_w_draw c) hr (by decide) tk rfl (ad_cons (pd_v 0) (ad_cons (pd_sub (pd_pow pd_int pd_int) pd_int) ad_nil)) (aC_len (aC_len aN_len)))) (ad_cons (pd_add pd_int (pd_cal (c_w_draw c) hr (by decide) tk rfl (ad_cons (pd_v 0) (ad_cons (pd_sub (pd_pow pd_int pd_int) pd_int) ad_nil)) (aC_len (aC_len aN_len)))) ad_nil)) (aC_len (aC_len aN_len))))))
abbrev sl_w_odd_weight : List Str := ["_law_pot_here", "_law_some_here"]
noncomputable def b_w_odd_weight : FS :=
  (sSeq (sSet 1 (eA oLstN (aC (eA oTupN (aC (eC (.int 0)) (aC (eC (.int 1)) aN))) (aC (eA oTupN (aC (e1 oNeg (eC (.int 1))) (aC (eC (.int 2)) aN))) (aC (eA oTupN (aC (eC (.int 2)) (aC (eC (.int 4)) aN))) (aC (eA oTupN (aC (eC (.int 1)) (aC (eC (.int 0)) aN))) (aC (eA oTupN (aC (eC (.int 1)) (aC (e1 oNeg (eC (.int 2))) aN))) (aC (eA oTupN (aC (e1 oNeg (eC (.int 1))) (aC (e1 oNeg (eC (.int 2))) aN))) (aC (eA oTupN (aC (eC (.bl true)) (aC (eC (.int 1)) aN))) (aC (eA oTupN (aC (eC (.int 1)) (aC (eC (.bl true)) aN))) (aC (eA oTupN (aC (eC (.int 1)) aN)) (aC (eA oTupN (aC (eC (.int 1)) (aC (eC (.int 2)) (aC (eC (.int 3)) aN)))) (aC (eA oLstN (aC (eC (.int 1)) (aC (eC (.int 2)) aN))) (aC (eC (.str "1/2")) aN))))))))))))))
  (sSeq (sSet 1 (e2 oAdd (eV 1) (eA oLstN (aC (eC (.int 5)) (aC (eC (.int 1)) (aC (eC (.int 0)) (aC (eC .non) (aC (eA oTupN aN) (aC (eC (.dK [] [])) (aC (eA oTupN (aC (eC (.str "1")) (aC (eC (.int 2)) aN))) (aC (eA oTupN (aC (eC (.int 1)) (aC (eC .non) aN))) (aC (eA oTupN (aC (eC .non) (aC (eC (.int 1)) aN))) (aC (eA oTupN (aC (eA oTupN (aC (eC (.int 1)) (aC (eC (.int 1)) aN))) (aC (eC (.int 1)) aN))) (aC (eA oTupN (aC (eC (.int 0)) (aC (eC (.int 0)) aN))) (aC (eC (.bl true)) (aC (eA oLstN aN) (aC (eA oTupN (aC (eC (.int 3)) (aC (eC (.int 2)) aN))) (aC (eA oTupN (aC (eC (.int 1)) (aC (eC (.int 1)) aN))) aN))))))))))))))))))
  (sRet (e2 oIx (eV 1) (eA m_w_draw (aC (eV 0) (aC (eC (.int 27)) aN)))))))
noncomputable def m_w_odd_weight : FM := run 2 b_w_odd_weight
theorem sc_w_odd_weight : FnScope sl_w_odd_weight ["_law_pot_here"] (defScope st_w_odd_weight) := ⟨rfl, rfl, rfl, by decide +kernel, rfl, by decide +kernel, by decide +kernel⟩
theorem c_w_odd_weight (c : Fx K mg) : CallD P w K mg base "_law_odd_weight" 2 1 m_w_odd_weight := by
  obtain ⟨fd, F⟩ := f_w_odd_weight c
  refine mkD F sc_w_odd_weight (g_w_odd_weight c) (fun _ _ _ _ _ _ us hl => match us, hl with | [_], _ => rfl) fun cdv A outer s H E hr tk po => ?_
  have nd := sc_w_odd_weight.nd
  exact (sd_cons (sd_set (i := 1) nd rfl (by first | exact Or.inl rfl | exact Or.inr rfl) (pd_val (pd_lstN (ad_cons (pd_tup (ad_cons pd_int (ad_cons pd_int ad_nil))) (ad_cons (pd_tup (ad_cons (pd_neg pd_int) (ad_cons pd_int ad_nil))) (ad_cons (pd_tup (ad_cons pd_int (ad_cons pd_int ad_nil))) (ad_cons (pd_tup (ad_cons pd_int (ad_cons pd_int ad_nil))) (ad_cons (pd_tup (ad_cons pd_int (ad_cons (pd_neg pd_int) ad_nil))) (ad_cons (pd_tup (ad_cons (pd_neg pd_int) (ad_cons (pd_neg pd_int) ad_nil))) (ad_cons (pd_tup (ad_cons pd_bl (ad_cons pd_int ad_nil))) (ad_cons (pd_tup (ad_cons pd_int (ad_cons pd_bl ad_nil))) (ad_cons (pd_tup (ad_cons pd_int ad_nil)) (ad_cons (pd_tup (ad_cons pd_int (ad_cons pd_int (ad_cons pd_int ad_nil)))) (ad_cons (pd_val (pd_lstN (ad_cons pd_int (ad_cons pd_int ad_nil)))) (ad_cons pd_str ad_nil)))))))))))))))
  (sd_cons (sd_set (i := 1) nd rfl (by first | exact Or.inl rfl | exact Or.inr rfl) (pd_add (pd_v 1) (pd_val (pd_lstN (ad_cons pd_int (ad_cons pd_int (ad_cons pd_int (ad_cons pd_non (ad_cons (pd_tup ad_nil) (ad_cons (pd_val pd_dnewK) (ad_cons (pd_tup (ad_cons pd_str (ad_cons pd_int ad_nil))) (ad_cons (pd_tup (ad_cons pd_int (ad_cons pd_non ad_nil))) (ad_cons (pd_tup (ad_cons pd_non (ad_cons pd_int ad_nil))) (ad_cons (pd_tup (ad_cons (pd_tup (ad_cons pd_int (ad_cons pd_int ad_nil))) (ad_cons pd_int ad_nil))) (ad_cons (pd_tup (ad_cons pd_int (ad_cons pd_int ad_nil))) (ad_cons pd_bl (ad_cons (pd_val (pd_lstN ad_nil)) (ad_cons (pd_tup (ad_cons pd_int (ad_cons pd_int ad_nil))) (ad_cons (pd_tup (ad_cons pd_int (ad_cons pd_int ad_nil))) ad_nil)))))))))))))))))))
  (sd_one (sd_ret (pd_at (pd_v 1) (pd_cal (c_w_draw c) hr (by decide) tk rfl (ad_cons (pd_v 0) (ad_cons pd_int ad_nil)) (aC_len (aC_len aN_len))))))))
abbrev sl_w_odd_weights : List Str := ["_law_pot_here", "_law_weights", "_law_at", "_law_way"]
noncomputable def b_w_odd_weights : FS :=
  (sSeq (sSet 2 (eA m_w_draw (aC (eV 0) (aC (eA oLen (aC (eV 1) aN)) aN))))
  (sSeq (sSet 3 (eA m_w_draw (aC (eV 0) (aC (eC (.int 4)) aN))))
  (sSeq (sIf (tB (e2 oLt (eV 3) (eC (.int 2)))) (sRet (e2 oAdd (e2 oAdd (eSlice (eV 1) oNo (oSo (eV 2))) (eA oLstN (aC (eA m_w_odd_weight (aC (eV 0) aN)) aN))) (eSlice (eV 1) (oSo (e2 oAdd (eV 2) (eC (.int 1)))) oNo))) sNx)
  (sSeq (sIf (tB (e2 (oEq false) (eV 3) (eC (.int 2)))) (sRet (e2 oAdd (eRep (eV 1) (eC (.int 12))) (eA oLstN (aC (eA oTupN (aC (eC (.int 1)) (aC (eC (.int 1)) aN))) aN)))) sNx)
  (sRet (e2 oIx (eA oLstN (aC (eC .non) (aC (eA oLstN aN) (aC (eA oTupN aN) (aC (eC (.str "")) (aC (eC (.str "ab")) (aC (eC (.int 7)) (aC (eC (.bl true)) (aC (eC (.dK [] [])) (aC (eDisp1 (aC (eC (.int 1)) (aC (eC (.int 1)) aN)) (eC (.int 1))) (aC (eA oTupN (aC (eC (.int 1)) (aC (eC (.int 2)) aN))) (aC (e2 oIx (eV 1) (eC (.int 0))) (aC (eA oLstN (aC (eA oLstN aN) aN)) aN))))))))))))) (eA m_w_draw (aC (eV 0) (aC (eC (.int 12)) aN)))))))))
noncomputable def m_w_odd_weights : FM := run 4 b_w_odd_weights
theorem sc_w_odd_weights : FnScope sl_w_odd_weights ["_law_pot_here", "_law_weights"] (defScope st_w_odd_weights) := ⟨rfl, rfl, rfl, by decide +kernel, rfl, by decide +kernel, by decide +kernel⟩
theorem c_w_odd_weights (c : Fx K mg) : CallD P w K mg base "_law_odd_weights" 3 2 m_w_odd_weights := by
  obtain ⟨fd, F⟩ := f_w_odd_weights c
  refine mkD F sc_w_odd_weights (g_w_odd_weights c) (fun _ _ _ _ _ _ us hl => match us, hl with | [_, _], _ => rfl) fun cdv A outer s H E hr tk po => ?_
  have nd := sc_w_odd_weights.nd
  exact (sd_cons (sd_set (i := 2) nd rfl (by first | exact Or.inl rfl | exact Or.inr rfl) (pd_cal (c_w_draw c) hr (by decide) tk rfl (ad_cons (pd_v 0) (ad_cons (pd_len rfl (n_len c) (ad_cons (pd_v 1) ad_nil)) ad_nil)) (aC_len (aC_len aN_len))))
  (sd_cons (sd_set (i := 3) nd rfl (by first | exact Or.inl rfl | exact Or.inr rfl) (pd_cal (c_w_draw c) hr (by decide) tk rfl (ad_cons (pd_v 0) (ad_cons pd_int ad_nil)) (aC_len (aC_len aN_len))))
  (sd_cons (sd_if (td_lt (pd_v 3) pd_int)
   (sd_one (sd_ret (pd_add (pd_add (pd_val (pd_slice (pd_v 1) od_none (od_some (pd_v 2)))) (pd_val (pd_lstN (ad_cons (pd_cal (c_w_odd_weight c) hr (by decide) tk rfl (ad_cons (pd_v 0) ad_nil) (aC_len aN_len)) ad_nil)))) (pd_val (pd_slice (pd_v 1) (od_some (pd_add (pd_v 2) pd_int)) od_none)))))
   sd_nil)
  (sd_cons (sd_if (td_eq hr (pd_v 3) pd_int)
   (sd_one (sd_ret (pd_add (pd_val (pd_rep (pd_v 1) pd_int)) (pd_val (pd_lstN (ad_cons (pd_tup (ad_cons pd_int (ad_cons pd_int ad_nil))) ad_nil))))))
   sd_nil)
  (sd_one (sd_ret (pd_at (pd_val (pd_lstN (ad_cons pd_non (ad_cons (pd_val (pd_lstN ad_nil)) (ad_cons (pd_tup ad_nil) (ad_cons pd_str (ad_cons pd_str (ad_cons pd_int (ad_cons pd_bl (ad_cons (pd_val pd_dnewK) (ad_cons (pd_val (pd_disp1 (room1 hr) (ad_cons pd_int (ad_cons pd_int ad_nil)) pd_int)) (ad_cons (pd_tup (ad_cons pd_int (ad_cons pd_int ad_nil))) (ad_cons (pd_at (pd_v 1) pd_int) (ad_cons (pd_val (pd_lstN (ad_cons (pd_val (pd_lstN ad_nil)) ad_nil))) ad_nil)))))))))))))) (pd_cal (c_w_draw c) hr (by decide) tk rfl (ad_cons (pd_v 0) (ad_cons pd_int ad_nil)) (aC_len (aC_len aN_len))))))))))
abbrev sl_w_is_whole : List Str := ["_law_thing"]
noncomputable def b_w_is_whole : FS :=
  (sRet (eAnd (eA (oIs noK) (aC (eV 0) (aC (eC (.ty "int")) aN))) (e1 oNot (eA (oIs noK) (aC (eV 0) (aC (eC (.ty "bool")) aN))))))
noncomputable def m_w_is_whole : FM := run 1 b_w_is_whole
theorem sc_w_is_whole : FnScope sl_w_is_whole ["_law_thing"] (defScope st_w_is_whole) := ⟨rfl, rfl, rfl, by decide +kernel, rfl, by decide +kernel, by decide +kernel⟩
theorem c_w_is_whole (c : Fx K mg) : CallD P w K mg base "_law_is_whole" 1 1 m_w_is_whole := by
  obtain ⟨fd, F⟩ := f_w_is_whole c
  refine mkD F sc_w_is_whole (g_w_is_whole c) (fun _ _ _ _ _ _ us hl => match us, hl with | [_], _ => rfl) fun cdv A outer s H E hr tk po => ?_
  have nd := sc_w_is_whole.nd
  exact (sd_one (sd_ret (pd_and (pd_is0 rfl (n_isinstance c) (ad_cons (pd_v 0) (ad_cons (pd_blt rfl (n_int c) (by decide +kernel)) ad_nil))) (pd_one (pd_not (pd_is0 rfl (n_isinstance c) (ad_cons (pd_v 0) (ad_cons (pd_blt rfl (n_bool c) (by decide +kernel)) ad_nil))))))))
abbrev sl_w_is_weight : List Str := ["_law_thing", "_law_one"]
noncomputable def b_w_is_weight : FS :=
  (sSeq (sIf (tOr (tNot (tB (eA (oIs noK) (aC (eV 0) (aC (eC (.ty "tuple")) aN))))) (tOr (tB (e2 (oEq true) (eA oLen (aC (eV 0) aN)) (eC (.int 2)))) (tNot (tB (eA (oAll false) (aC (eLc (fiSeq (eV 0)) (gN 1) [1] tTrue (eA m_w_is_whole (aC (eV 1) aN))) aN)))))) (sRet (eC (.bl false))) sNx)
  (sRet (eAnd (e2 oGt (e2 oIx (eV 0) (eC (.int 0))) (eC (.int 0))) (eAnd (e2 oGt (e2 oIx (eV 0) (eC (.int 1))) (eC (.int 0))) (e2 (oEq false) (eA m_w_low (aC (e2 oIx (eV 0) (eC (.int 0))) (aC (e2 oIx (eV 0) (eC (.int 1))) aN))) (eV 0))))))
noncomputable def m_w_is_weight : FM := run 2 b_w_is_weight
theorem sc_w_is_weight : FnScope sl_w_is_weight ["_law_thing"] (defScope st_w_is_weight) := ⟨rfl, rfl, rfl, by decide +kernel, rfl, by decide +kernel, by decide +kernel⟩
theorem c_w_is_weight (c : Fx K mg) : CallD P w K mg base "_law_is_weight" 2 1 m_w_is_weight := by
  obtain ⟨fd, F⟩ := f_w_is_weight c
  refine mkD F sc_w_is_weight (g_w_is_weight c) (fun _ _ _ _ _ _ us hl => match us, hl with | [_], _ => rfl) fun cdv A outer s H E hr tk po => ?_
  have nd := sc_w_is_weight.nd
  exact (sd_cons (sd_if (PW.pt (wd_or (td_not (td_val (pd_is0 rfl (n_isinstance c) (ad_cons (pd_v 0) (ad_cons (pd_blt rfl (n_tuple c) (by decide +kernel)) ad_nil))))) (wd_or (td_ne hr (pd_len rfl (n_len c) (ad_cons (pd_v 0) ad_nil)) pd_int) (wd_or1 (td_not (td_val (pd_all rfl rfl (n_all c) (ad_cons (pd_val (by exact (pd_lc (own := [("_law_one", 1)]) rfl nd (id_seq (pd_v 0)) (blkOk_by (N := sl_w_is_weight) (sc := defScope st_w_is_weight) (own := [("_law_one", 1)]) (by decide +kernel)) (by exact fun _ _ _ _ _ => (pg_name (i := 1) nd rfl (by first | exact Or.inl rfl | exact Or.inr rfl))) tk_name (by decide) (by exact fun _ _ _ _ _ => tds_nil) (by exact fun _ _ _ _ _ => (pd_cal (c_w_is_whole c) hr (by decide) tk0 rfl (ad_cons (pd_v 1) ad_nil) (aC_len aN_len)))))) ad_nil))))))))
   (sd_one (sd_ret pd_bl))
   sd_nil)
  (sd_one (sd_ret (pd_and (pd_gt (pd_at (pd_v 0) pd_int) pd_int) (pd_and (pd_gt (pd_at (pd_v 0) pd_int) pd_int) (pd_one (pd_eq hr (pd_cal (c_w_low c) hr (by decide) tk rfl (ad_cons (pd_at (pd_v 0) pd_int) (ad_cons (pd_at (pd_v 0) pd_int) ad_nil)) (aC_len (aC_len aN_len))) (pd_v 0))))))))
abbrev sl_w_due : List Str := ["_law_weights", "_law_step", "_law_one", "_law_whole"]
noncomputable def b_w_due : FS :=
  (sSeq (sIf (tOr (tNot (tB (eIsT noK (eV 0) (aC (eC (.ty "list")) (aC (eC (.ty "tuple")) aN))))) (tNot (tB (eChain oLe oLe (eC (.int 1)) (eA oLen (aC (eV 0) aN)) (eC (.int 12)))))) (sRet (eC (.str "weights"))) sNx)
  (sSeq (sIf (tNot (tB (eA (oAll false) (aC (eLc (fiSeq (eV 0)) (gN 2) [2] tTrue (eA m_w_is_weight (aC (eV 2) aN))) aN)))) (sRet (eC (.str "weights"))) sNx)
  (sSeq (sIf (tNot (tB (eA m_w_is_weight (aC (eV 1) aN)))) (sRet (eC (.str "step"))) sNx)
  (sSeq (sSet 3 (eA m_w_total (aC (eV 0) aN)))
  (sRet (e2 oIx (eA oLstN (aC (eC (.str "made")) (aC (eC (.str "little")) aN))) (eA oInt (aC (e2 oLt (e2 oMul (e2 oIx (eV 3) (eC (.int 0))) (e2 oIx (eV 1) (eC (.int 1)))) (e2 oMul (e2 oIx (eV 1) (eC (.int 0))) (e2 oIx (eV 3) (eC (.int 1))))) aN))))))))
noncomputable def m_w_due : FM := run 4 b_w_due
theorem sc_w_due : FnScope sl_w_due ["_law_weights", "_law_step"] (defScope st_w_due) := ⟨rfl, rfl, rfl, by decide +kernel, rfl, by decide +kernel, by decide +kernel⟩
theorem c_w_due (c : Fx K mg) : CallD P w K mg base "_law_due" 4 2 m_w_due := by
  obtain ⟨fd, F⟩ := f_w_due c
  refine mkD F sc_w_due (g_w_due c) (fun _ _ _ _ _ _ us hl => match us, hl with | [_, _], _ => rfl) fun cdv A outer s H E hr tk po => ?_
  have nd := sc_w_due.nd
  exact (sd_cons (sd_if (PW.pt (wd_or (td_not (td_val (pd_isT noK_ok rfl (n_isinstance c) (pd_v 0) (ad_cons (pd_blt rfl (n_list c) (by decide +kernel)) (ad_cons (pd_blt rfl (n_tuple c) (by decide +kernel)) ad_nil))))) (wd_or1 (td_not (td_chain op_le (og_I0 fun _ _ _ _ _ => rfl) op_le (og_I0 fun _ _ _ _ _ => rfl) pd_int (pd_len rfl (n_len c) (ad_cons (pd_v 0) ad_nil)) pd_int)))))
   (sd_one (sd_ret pd_str))
   sd_nil)
  (sd_cons (sd_if (td_not (td_val (pd_all rfl rfl (n_all c) (ad_cons (pd_val (by exact (pd_lc (own := [("_law_one", 2)]) rfl nd (id_seq (pd_v 0)) (blkOk_by (N := sl_w_due) (sc := defScope st_w_due) (own := [("_law_one", 2)]) (by decide +kernel)) (by exact fun _ _ _ _ _ => (pg_name (i := 2) nd rfl (by first | exact Or.inl rfl | exact Or.inr rfl))) tk_name (by decide) (by exact fun _ _ _ _ _ => tds_nil) (by exact fun _ _ _ _ _ => (pd_cal (c_w_is_weight c) hr (by decide) tk0 rfl (ad_cons (pd_v 2) ad_nil) (aC_len aN_len)))))) ad_nil))))
   (sd_one (sd_ret pd_str))
   sd_nil)
  (sd_cons (sd_if (td_not (td_val (pd_cal (c_w_is_weight c) hr (by decide) tk rfl (ad_cons (pd_v 1) ad_nil) (aC_len aN_len))))
   (sd_one (sd_ret pd_str))
   sd_nil)
  (sd_cons (sd_set (i := 3) nd rfl (by first | exact Or.inl rfl | exact Or.inr rfl) (pd_cal (c_w_total c) hr (by decide) tk rfl (ad_cons (pd_v 0) ad_nil) (aC_len aN_len)))
  (sd_one (sd_ret (pd_at (pd_val (pd_lstN (ad_cons pd_str (ad_cons pd_str ad_nil)))) (pd_toint rfl (n_int c) (ad_cons (pd_lt (pd_mul (pd_at (pd_v 3) pd_int) (pd_at (pd_v 1) pd_int)) (pd_mul (pd_at (pd_v 1) pd_int) (pd_at (pd_v 3) pd_int))) ad_nil)))))))))
abbrev sl_w_told : List Str := ["_law_way", "_law_weights", "_law_step", "_law_told_here", "e", "_law_kinds", "_law_others"]
noncomputable def b_w_told : FS :=
  (sSeq (sSet 3 (eC (.str "made")))
  (sSeq (sTry (sKnow sub_LoafError (sIf (tB (e2 (oEq false) (eV 0) (eC (.int 0)))) (sExpr (eA m_aims (aC (eV 1) (aC (eV 2) aN)))) (sIf (tB (e2 (oEq false) (eV 0) (eC (.int 1)))) (sExpr (eA m_rounded (aC (eV 1) (aC (eV 2) aN)))) (sIf (tB (e2 (oEq false) (eV 0) (eC (.int 2)))) (sExpr (eA m_worst_of (aC (eV 1) (aC (eV 2) (aC (eRep (eA oLstN (aC (eC (.int 0)) aN)) (eIf (tB (eIsT noK (eV 1) (aC (eC (.ty "list")) (aC (eC (.ty "tuple")) aN)))) (eA oLen (aC (eV 1) aN)) (eC (.int 1)))) aN))))) (sIf (tB (e2 (oEq false) (eV 0) (eC (.int 3)))) (sExpr (eA m_paper (aC (eV 1) (aC (eV 2) (aC (eA oTupN (aC (eC (.int 1)) (aC (eC (.int 2)) aN))) aN))))) (sExpr (eA m_shows (aC (eV 1) (aC (eV 2) (aC (eA oTupN (aC (eC (.int 1)) (aC (eC (.int 2)) aN))) (aC (eA oTupN (aC (eA oLstN aN) (aC (eA oLstN aN) aN))) aN))))))))))) (subOf sub_LoafError) 4 fun y => (sSeq (sSet 5 (eA oLstN (aC (eA (oIsE (tbK rows) y.c) (aC (eV 4) (aC (eC (.cls "NoWeights")) aN))) (aC (eA (oIsE (tbK rows) y.c) (aC (eV 4) (aC (eC (.cls "NoStep")) aN))) (aC (eA (oIsE (tbK rows) y.c) (aC (eV 4) (aC (eC (.cls "TooLittle")) aN))) aN)))))
   (sSeq (sSet 6 (eOr (eIsET (tbK rows) y.c (eV 4) (aC (eC (.cls "NoCount")) (aC (eC (.cls "NoFraction")) (aC (eC (.cls "NoName")) (aC (eC (.cls "NoWeight")) aN))))) (e1 oNot (eA (oIsE (tbK rows) y.c) (aC (eV 4) (aC (eC (.ty "ValueError")) aN))))))
   (sSet 3 (eIf (tOr (tB (eV 6)) (tB (e2 (oEq true) (eA oSumB (aC (eV 5) aN)) (eC (.int 1))))) (eC (.str "others")) (e2 oIx (eA oLstN (aC (eC (.str "weights")) (aC (eC (.str "step")) (aC (eC (.str "little")) aN)))) (eBM "list" oIndex (eV 5) (aC (eC (.bl true)) aN))))))))
  (sRet (eV 3))))
noncomputable def m_w_told : FM := run 7 b_w_told
theorem sc_w_told : FnScope sl_w_told ["_law_way", "_law_weights", "_law_step"] (defScope st_w_told) := ⟨rfl, rfl, rfl, by decide +kernel, rfl, by decide +kernel, by decide +kernel⟩
theorem c_w_told (c : Fx K mg) : CallD P w K mg base "_law_told" 9 3 m_w_told := by
  obtain ⟨fd, F⟩ := f_w_told c
  refine mkD F sc_w_told (g_w_told c) (fun _ _ _ _ _ _ us hl => match us, hl with | [_, _, _], _ => rfl) fun cdv A outer s H E hr tk po => ?_
  have nd := sc_w_told.nd
  exact (sd_cons (sd_set (i := 3) nd rfl (by first | exact Or.inl rfl | exact Or.inr rfl) pd_str)
  (sd_cons (sd_tryK (i := 4) rfl rfl nd rfl rfl rfl (by decide) (g_LoafError c) (e_LoafError c) tk
   (fun W1 pn1 xe1 tk1 po1 => (sd_one (sd_if (td_eq hr (pd_v 0) pd_int)
    (sd_one (sd_expr (pd_cal (c_aims c) hr (by decide) tk1 rfl (ad_cons (pd_v 1) (ad_cons (pd_v 2) ad_nil)) (aC_len (aC_len aN_len)))))
    (sd_one (sd_if (td_eq hr (pd_v 0) pd_int)
     (sd_one (sd_expr (pd_cal (c_rounded c) hr (by decide) tk1 rfl (ad_cons (pd_v 1) (ad_cons (pd_v 2) ad_nil)) (aC_len (aC_len aN_len)))))
     (sd_one (sd_if (td_eq hr (pd_v 0) pd_int)
      (sd_one (sd_expr (pd_cal (c_worst_of c) hr (by decide) tk1 rfl (ad_cons (pd_v 1) (ad_cons (pd_v 2) (ad_cons (pd_val (pd_rep (pd_val (pd_lstN (ad_cons pd_int ad_nil))) (pd_if (td_val (pd_isT noK_ok rfl (n_isinstance c) (pd_v 1) (ad_cons (pd_blt rfl (n_list c) (by decide +kernel)) (ad_cons (pd_blt rfl (n_tuple c) (by decide +kernel)) ad_nil)))) (pd_len rfl (n_len c) (ad_cons (pd_v 1) ad_nil)) pd_int))) ad_nil))) (aC_len (aC_len (aC_len aN_len))))))
      (sd_one (sd_if (td_eq hr (pd_v 0) pd_int)
       (sd_one (sd_expr (pd_cal (c_paper c) hr (by decide) tk1 rfl (ad_cons (pd_v 1) (ad_cons (pd_v 2) (ad_cons (pd_tup (ad_cons pd_int (ad_cons pd_int ad_nil))) ad_nil))) (aC_len (aC_len (aC_len aN_len))))))
       (sd_one (sd_expr (pd_cal (c_shows c) hr (by decide) tk1 rfl (ad_cons (pd_v 1) (ad_cons (pd_v 2) (ad_cons (pd_tup (ad_cons pd_int (ad_cons pd_int ad_nil))) (ad_cons (pd_tup (ad_cons (pd_val (pd_lstN ad_nil)) (ad_cons (pd_val (pd_lstN ad_nil)) ad_nil))) ad_nil)))) (aC_len (aC_len (aC_len (aC_len aN_len))))))))))))))))
   (fun a1 oe y d1 pn1 hz hf hy => (sd_cons (sd_set (i := 5) nd rfl (by first | exact Or.inl rfl | exact Or.inr rfl) (pd_val (pd_lstN (ad_cons (pd_isE1 hz hf (kd c) rfl (n_isinstance c) (ad_cons (pd_v 4) (ad_cons (pd_cls rfl (g_NoWeights c)) ad_nil))) (ad_cons (pd_isE1 hz hf (kd c) rfl (n_isinstance c) (ad_cons (pd_v 4) (ad_cons (pd_cls rfl (g_NoStep c)) ad_nil))) (ad_cons (pd_isE1 hz hf (kd c) rfl (n_isinstance c) (ad_cons (pd_v 4) (ad_cons (pd_cls rfl (g_TooLittle c)) ad_nil))) ad_nil))))))
   (sd_cons (sd_set (i := 6) nd rfl (by first | exact Or.inl rfl | exact Or.inr rfl) (pd_or (pd_isET hz hf (kd c) rfl (n_isinstance c) (pd_v 4) (ad_cons (pd_cls rfl (g_NoCount c)) (ad_cons (pd_cls rfl (g_NoFraction c)) (ad_cons (pd_cls rfl (g_NoName c)) (ad_cons (pd_cls rfl (g_NoWeight c)) ad_nil))))) (pd_one (pd_not (pd_isE1 hz hf (kd c) rfl (n_isinstance c) (ad_cons (pd_v 4) (ad_cons (pd_blt rfl (n_ValueError c) (by decide +kernel)) ad_nil)))))))
   (sd_one (sd_set (i := 3) nd rfl (by first | exact Or.inl rfl | exact Or.inr rfl) (pd_if (PW.pt (wd_or (td_val (pd_v 6)) (wd_or1 (td_neU (su64 hr) (pd_sumBH hz hf rfl (n_sum c) (ad_cons (pd_v 5) ad_nil)) pd_int)))) pd_str (pd_at (pd_val (pd_lstN (ad_cons pd_str (ad_cons pd_str (ad_cons pd_str ad_nil))))) (pd_index (pd_v 5) (ad_cons pd_bl ad_nil))))))))))
  (sd_one (sd_ret (pd_v 3)))))
abbrev sl_law : List Str := ["_law_script", "_law_k", "_law_pot_here", "_law_weights", "_law_turn", "_law_step", "_law_before", "_law_due_here", "_law_way"]
noncomputable def b_law : FS :=
  (sSeq (sFor (fiRng (aC (eA oMax2 (aC (eC (.int 1)) (aC (eA oMin2 (aC (eC (.int 12)) (aC (eA oLen (aC (eV 0) aN)) aN))) aN))) aN)) (gN 1) (sSeq (sSet 2 (eOwn (eA m_w_pot (aC (eA m_w_cell (aC (eV 0) (aC (eV 1) aN))) aN))))
   (sSeq (sSet 3 (eLc (fiRng (aC (e2 oAdd (eC (.int 1)) (eA m_w_draw (aC (eV 2) (aC (eC (.int 12)) aN)))) aN)) (gN 4) [4] tTrue (eA m_w_some (aC (eV 2) aN))))
   (sSeq (sSet 5 (e2 oIx (eA oLstN (aC (eA m_w_some (aC (eV 2) aN)) (aC (eA m_w_some (aC (eV 2) aN)) (aC (eA oTupN (aC (e2 oSub (e2 oPow (eC (.int 10)) (eC (.int 12))) (eC (.int 1))) (aC (eC (.int 1)) aN))) aN)))) (eA m_w_draw (aC (eV 2) (aC (eC (.int 3)) aN)))))
   (sSeq (sIf (tB (e2 (oEq false) (eA m_w_draw (aC (eV 2) (aC (eC (.int 3)) aN))) (eC (.int 0)))) (sSet 3 (eA m_w_odd_weights (aC (eV 2) (aC (eV 3) aN)))) sNx)
   (sSeq (sIf (tB (e2 (oEq false) (eA m_w_draw (aC (eV 2) (aC (eC (.int 3)) aN))) (eC (.int 0)))) (sSet 5 (eA m_w_odd_weight (aC (eV 2) aN))) sNx)
   (sSeq (sSet 6 (eA oRepr (aC (eA oTupN (aC (eV 3) (aC (eV 5) aN))) aN)))
   (sSeq (sSet 7 (eA m_w_due (aC (eV 3) (aC (eV 5) aN))))
   (sFor (fiRng (aC (eC (.int 5)) aN)) (gN 8) (sIf (tOr (tB (e2 (oEq true) (eV 8) (eC (.int 2)))) (tB (e2 (oEq true) (eV 7) (eC (.str "made"))))) (sIf (tOr (tB (e2 (oEq true) (eA m_w_told (aC (eV 8) (aC (eV 3) (aC (eV 5) aN)))) (eV 7))) (tB (e2 (oEq true) (eA oRepr (aC (eA oTupN (aC (eV 3) (aC (eV 5) aN))) aN)) (eV 6)))) (sRet (eC (.bl false))) sNx) sNx))))))))))
  (sRet (eC (.bl true))))
noncomputable def m_law : FM := run 9 b_law
theorem sc_law : FnScope sl_law ["_law_script"] (defScope st_law) := ⟨rfl, rfl, rfl, by decide +kernel, rfl, by decide +kernel, by decide +kernel⟩
theorem c_law {f : Addr} {fd : FuncData} (F : FunD K "law" "law" (defArgs st_law) (defBody st_law) (defScope st_law) [] [] f fd) (c : Fx K mg) : FnC callerA P w K mg base (L2N.CX P w) f fd ["_law_script"] (spD ⟨K, none⟩ 1 m_law) := by
  refine mkC (k := 9) F sc_law ⟨rfl, by decide, by decide⟩ fun cdv outer s H E hr hgd tk po => ?_
  have nd := sc_law.nd
  exact (sd_cons (sd_for po rfl (id_rng rfl (n_range c) (ad_cons (pd_max rfl rfl (n_max c) (ad_cons pd_int (ad_cons (pd_min rfl rfl (n_min c) (ad_cons pd_int (ad_cons (pd_len rfl (n_len c) (ad_cons (pd_v 0) ad_nil)) ad_nil))) ad_nil))) ad_nil)) (pg_name (i := 1) nd rfl (by first | exact Or.inl rfl | exact Or.inr rfl)) tk_name
   (sd_cons (sd_set (i := 2) nd rfl (by first | exact Or.inl rfl | exact Or.inr rfl) (pd_own (pd_calF (c_w_pot c) hr (by decide) tk rfl (ad_cons (pd_cal (c_w_cell c) hr (by decide) tk rfl (ad_cons (pd_v 0) (ad_cons (pd_v 1) ad_nil)) (aC_len (aC_len aN_len))) ad_nil) (aC_len aN_len))))
   (sd_cons (sd_setLc (i := 3) (own := [("_law_turn", 4)]) rfl nd rfl rfl (sw_true rfl rfl rfl (by decide +kernel)) (id_rng rfl (n_range c) (ad_cons (pd_add pd_int (pd_cal (c_w_draw c) hr (by decide) tk rfl (ad_cons (pd_v 2) (ad_cons pd_int ad_nil)) (aC_len (aC_len aN_len)))) ad_nil)) (blkOk_by (N := sl_law) (sc := defScope st_law) (own := [("_law_turn", 4)]) (by decide +kernel)) (by exact fun _ _ _ _ _ => (pg_name (i := 4) nd rfl (by first | exact Or.inl rfl | exact Or.inr rfl))) tk_name (by decide) (by exact fun _ _ _ _ _ => tds_nil) (by exact fun _ _ _ _ _ => (pd_cal (c_w_some c) hr (by decide) tk0 rfl (ad_cons (pd_v 2) ad_nil) (aC_len aN_len))))
   (sd_cons (sd_set (i := 5) nd rfl (by first | exact Or.inl rfl | exact Or.inr rfl) (pd_at (pd_val (pd_lstN (ad_cons (pd_cal (c_w_some c) hr (by decide) tk rfl (ad_cons (pd_v 2) ad_nil) (aC_len aN_len)) (ad_cons (pd_cal (c_w_some c) hr (by decide) tk rfl (ad_cons (pd_v 2) ad_nil) (aC_len aN_len)) (ad_cons (pd_tup (ad_cons (pd_sub (pd_pow pd_int pd_int) pd_int) (ad_cons pd_int ad_nil))) ad_nil))))) (pd_cal (c_w_draw c) hr (by decide) tk rfl (ad_cons (pd_v 2) (ad_cons pd_int ad_nil)) (aC_len (aC_len aN_len)))))
   (sd_cons (sd_if (td_eq hr (pd_cal (c_w_draw c) hr (by decide) tk rfl (ad_cons (pd_v 2) (ad_cons pd_int ad_nil)) (aC_len (aC_len aN_len))) pd_int)
    (sd_one (sd_set (i := 3) nd rfl (by first | exact Or.inl rfl | exact Or.inr rfl) (pd_cal (c_w_odd_weights c) hr (by decide) tk rfl (ad_cons (pd_v 2) (ad_cons (pd_v 3) ad_nil)) (aC_len (aC_len aN_len)))))
    sd_nil)
   (sd_cons (sd_if (td_eq hr (pd_cal (c_w_draw c) hr (by decide) tk rfl (ad_cons (pd_v 2) (ad_cons pd_int ad_nil)) (aC_len (aC_len aN_len))) pd_int)
    (sd_one (sd_set (i := 5) nd rfl (by first | exact Or.inl rfl | exact Or.inr rfl) (pd_cal (c_w_odd_weight c) hr (by decide) tk rfl (ad_cons (pd_v 2) ad_nil) (aC_len aN_len))))
    sd_nil)
   (sd_cons (sd_set (i := 6) nd rfl (by first | exact Or.inl rfl | exact Or.inr rfl) (pd_repr hgd hr rfl (n_repr c) (ad_cons (pd_tup (ad_cons (pd_v 3) (ad_cons (pd_v 5) ad_nil))) ad_nil)))
   (sd_cons (sd_set (i := 7) nd rfl (by first | exact Or.inl rfl | exact Or.inr rfl) (pd_cal (c_w_due c) hr (by decide) tk rfl (ad_cons (pd_v 3) (ad_cons (pd_v 5) ad_nil)) (aC_len (aC_len aN_len))))
   (sd_one (sd_for po rfl (id_rng rfl (n_range c) (ad_cons pd_int ad_nil)) (pg_name (i := 8) nd rfl (by first | exact Or.inl rfl | exact Or.inr rfl)) tk_name
    (sd_one (sd_if (PW.pt (wd_or (td_ne hr (pd_v 8) pd_int) (wd_or1 (td_ne hr (pd_v 7) pd_str))))
     (sd_one (sd_if (PW.pt (wd_or (td_ne hr (pd_cal (c_w_told c) hr (by decide) tk rfl (ad_cons (pd_v 8) (ad_cons (pd_v 3) (ad_cons (pd_v 5) ad_nil))) (aC_len (aC_len (aC_len aN_len)))) (pd_v 7)) (wd_or1 (td_ne hr (pd_repr hgd hr rfl (n_repr c) (ad_cons (pd_tup (ad_cons (pd_v 3) (ad_cons (pd_v 5) ad_nil))) ad_nil)) (pd_v 6)))))
      (sd_one (sd_ret pd_bl))
      sd_nil))
     sd_nil))))))))))))
  (sd_one (sd_ret pd_bl)))
end
end Pk59
end

section
set_option Elab.async false
set_option linter.all false
set_option autoImplicit false
set_option maxRecDepth 100000
set_option maxHeartbeats 1000000
namespace Pk59
open PySem DL
/-! fractions -/
abbrev fD (p : Int × Int) : D := .tup [.int p.1, .int p.2]
def red (a b : Int) : Int × Int := (a / (Int.gcd a b : Int), b / (Int.gcd a b : Int))
theorem beq_dec (i j : Int) : (i == j) = decide (i = j) := by
  rw [Bool.eq_iff_iff]
  simp
theorem eq_int (i j : Int) (μ : Sto) : oEq false (.int i) (.int j) μ = .ok (.bl (decide (i = j))) μ := by
  simp [oEq, strE, cOf, toPy, SeqAt.shaped, PyData.eqv, PyData.canLay0, PyData.depth, beq_dec]
theorem ne_int (i j : Int) (μ : Sto) : oEq true (.int i) (.int j) μ = .ok (.bl (!decide (i = j))) μ := by
  simp [oEq, strE, cOf, toPy, SeqAt.shaped, PyData.eqv, PyData.canLay0, PyData.depth, beq_dec]
theorem gcd_mod (a b : Int) : Int.gcd b (a % b) = Int.gcd a b := by
  have e : a = b * (a / b) + a % b := (Int.mul_ediv_add_emod a b).symm
  conv => rhs; rw [e]
  rw [Int.gcd_comm (b * (a / b) + a % b) b, Int.gcd_mul_left_add_right]
theorem common_loop (μ : Sto) : ∀ (n : Nat) (a b : Int), 0 ≤ b → b.toNat ≤ n → ∃ c : Int, (c.natAbs = Int.gcd a b) ∧ sWh (tB (e2 (oEq true) (eV 1) (eC (.int 0)))) (sPar 0 1 (aC (eV 1) (aC (e2 oMod (eV 0) (eV 1)) aN))) [some (.int a), some (.int b)] μ = .nx [some (.int c), some (.int 0)] μ := by
  intro n
  induction n with
  | zero =>
    intro a b h0 h1
    have e : b = 0 := by omega
    subst e
    refine ⟨a, by simp, sWh_end (μ1 := μ) ?_⟩
    simp [tB, e2, eV, eC, Res.bind, ne_int]
  | succ n ih =>
    intro a b h0 h1
    by_cases e : b = 0
    · subst e
      refine ⟨a, by simp, sWh_end (μ1 := μ) ?_⟩
      simp [tB, e2, eV, eC, Res.bind, ne_int]
    · have hp : 0 < b := by omega
      have m0 := Int.emod_nonneg a e
      have m1 := Int.emod_lt_of_pos a hp
      obtain ⟨c, hc, hw⟩ := ih b (a % b) m0 (by omega)
      refine ⟨c, by rw [hc, gcd_mod], sWh_step (μ1 := μ) (ρ2 := [some (.int b), some (.int (a % b))]) (μ2 := μ) ?_ ?_ hw (by simp)⟩
      · simp [tB, e2, eV, eC, Res.bind, ne_int, e]
      · simp [sPar, aC, aN, e2, eV, eC, Res.bind, Res.out, iI, cOf, hp]
theorem abs_eq (c : Int) (μ : Sto) : oAbs [.int c] μ = .ok (.int (c.natAbs : Int)) μ := by
  simp only [oAbs]
  congr 2
  split <;> omega
theorem common_ok (a b : Int) (hb : 0 ≤ b) (μ : Sto) : m_common [.int a, .int b] μ = .ok (.int (Int.gcd a b : Int)) μ := by
  obtain ⟨c, hc, hw⟩ := common_loop μ b.toNat a b hb (Nat.le_refl _)
  refine run_rt ?_ (by simp [lab])
  simp [b_common, sSeq, hw, sRet, eA, aC, aN, eV, Res.bind, Res.out, abs_eq, hc]
/-! sizes -/
theorem log2_le {n p : Nat} (h : n < 2 ^ p) : n.log2 ≤ p := by
  by_cases z : n = 0
  · subst z
    simp
  · exact Nat.le_of_lt ((Nat.log2_lt z).mpr h)
theorem mul_ok {i j : Int} {p q : Nat} (hi : i.natAbs < 2 ^ p) (hj : j.natAbs < 2 ^ q) (h : p + q < 1000000) (μ : Sto) : oMul (.int i) (.int j) μ = .ok (.int (i * j)) μ := by
  have h1 := log2_le hi
  have h2 := log2_le hj
  have h3 : i.natAbs.log2 + j.natAbs.log2 < 1000000 := by omega
  simp [iI, cOf, h3]
theorem div_ok {i j : Int} {q : Nat} (h0 : 0 < j) (hj : j.natAbs < 2 ^ q) (h : q < 9000) (μ : Sto) : oDiv (.int i) (.int j) μ = .ok (.int (i / j)) μ := by
  have h1 := log2_le hj
  have h3 : j.natAbs.log2 < 9000 := by omega
  simp [iI, cOf, h0, h3]
structure Fr (p q : Nat) (x : Int × Int) : Prop where
  n : x.1.natAbs < 2 ^ p
  pos : 0 < x.2
  d : x.2.natAbs < 2 ^ q
theorem gcd_pos {a b : Int} (hb : 0 < b) : 0 < (Int.gcd a b : Int) := by
  have := Int.gcd_pos_of_ne_zero_right a (b := b) (by omega)
  omega
theorem red_fr {a b : Int} {p q : Nat} (ha : a.natAbs < 2 ^ p) (hb : 0 < b) (hq : b.natAbs < 2 ^ q) : Fr p q (red a b) := by
  have g0 := gcd_pos (a := a) hb
  have d1 := Int.gcd_dvd_left a b
  have d2 := Int.gcd_dvd_right a b
  refine ⟨?_, ?_, ?_⟩
  · show (a / (Int.gcd a b : Int)).natAbs < _
    rw [Int.natAbs_ediv_of_dvd d1]
    exact Nat.lt_of_le_of_lt (Nat.div_le_self _ _) ha
  · show 0 < b / (Int.gcd a b : Int)
    exact Int.ediv_pos_of_pos_of_dvd hb (by omega) d2
  · show (b / (Int.gcd a b : Int)).natAbs < _
    rw [Int.natAbs_ediv_of_dvd d2]
    exact Nat.lt_of_le_of_lt (Nat.div_le_self _ _) hq
theorem tup2 (a b : D) (μ : Sto) : oTupN [a, b] μ = .ok (.tup [a, b]) μ := rfl
theorem fraction_ok {a b : Int} {q : Nat} (hb : 0 < b) (hq : b.natAbs < 2 ^ q) (h : q < 9000) (μ : Sto) : m_fraction [.int a, .int b] μ = .ok (fD (red a b)) μ := by
  have g0 := gcd_pos (a := a) hb
  have g1 : Int.gcd a b < 2 ^ q := by
    have := Int.gcd_le_right a hb
    omega
  have g2 : (Int.gcd a b).log2 < 9000 := by
    have := log2_le g1
    omega
  have nb : ¬ b = 0 := by omega
  have nl : ¬ b < 0 := by omega
  refine run_rt ?_ (by simp [lab, labs, red])
  simp [b_fraction, sSeq, sIf, sNx, sSet, sRet, tB, e2, eV, eC, eA, aC, aN, Res.bind, Res.out, eq_int, nb, common_ok a b (Int.le_of_lt hb), iI, cOf, nl, g0, g2, red, tup2]
theorem ix0 (a b : D) (μ : Sto) : oIx (.tup [a, b]) (.int 0) μ = .ok a μ := rfl
theorem ix1 (a b : D) (μ : Sto) : oIx (.tup [a, b]) (.int 1) μ = .ok b μ := rfl
theorem add_ok (i j : Int) (μ : Sto) : oAdd (.int i) (.int j) μ = .ok (.int (i + j)) μ := rfl
theorem sub_ok (i j : Int) (μ : Sto) : oSub (.int i) (.int j) μ = .ok (.int (i - j)) μ := rfl
theorem lt_ok (i j : Int) (μ : Sto) : oLt (.int i) (.int j) μ = .ok (.bl (decide (i < j))) μ := rfl
theorem gt_ok (i j : Int) (μ : Sto) : oGt (.int i) (.int j) μ = .ok (.bl (decide (j < i))) μ := rfl
def plusF (x y : Int × Int) : Int × Int := red (x.1 * y.2 + y.1 * x.2) (x.2 * y.2)
def minusF (x y : Int × Int) : Int × Int := red (x.1 * y.2 - y.1 * x.2) (x.2 * y.2)
def timesF (x y : Int × Int) : Int × Int := red (x.1 * y.1) (x.2 * y.2)
def overF (x y : Int × Int) : Int × Int := red (x.1 * y.2) (x.2 * y.1)
theorem lt_mul {i j : Int} {p q : Nat} (hi : i.natAbs < 2 ^ p) (hj : j.natAbs < 2 ^ q) : (i * j).natAbs < 2 ^ (p + q) := by
  rw [Int.natAbs_mul, Nat.pow_add]
  exact Nat.mul_lt_mul'' hi hj
theorem lt_add {i j : Int} {p q : Nat} (hi : i.natAbs < 2 ^ p) (hj : j.natAbs < 2 ^ q) : (i + j).natAbs < 2 ^ (p + q + 1) := by
  have h1 : 2 ^ p ≤ 2 ^ (p + q) := Nat.pow_le_pow_right (by omega) (by omega)
  have h2 : 2 ^ q ≤ 2 ^ (p + q) := Nat.pow_le_pow_right (by omega) (by omega)
  rw [Nat.pow_succ]
  have := Int.natAbs_add_le i j
  omega
theorem lt_sub {i j : Int} {p q : Nat} (hi : i.natAbs < 2 ^ p) (hj : j.natAbs < 2 ^ q) : (i - j).natAbs < 2 ^ (p + q + 1) := by
  rw [Int.sub_eq_add_neg]
  exact lt_add hi (by rw [Int.natAbs_neg]; exact hj)
section
variable {x y : Int × Int} {p q p' q' : Nat}
theorem plus_fr (hx : Fr p q x) (hy : Fr p' q' y) : Fr (p + q' + (p' + q) + 1) (q + q') (plusF x y) :=
  red_fr (lt_add (lt_mul hx.n hy.d) (lt_mul hy.n hx.d)) (Int.mul_pos hx.pos hy.pos) (lt_mul hx.d hy.d)
theorem minus_fr (hx : Fr p q x) (hy : Fr p' q' y) : Fr (p + q' + (p' + q) + 1) (q + q') (minusF x y) :=
  red_fr (lt_sub (lt_mul hx.n hy.d) (lt_mul hy.n hx.d)) (Int.mul_pos hx.pos hy.pos) (lt_mul hx.d hy.d)
theorem times_fr (hx : Fr p q x) (hy : Fr p' q' y) : Fr (p + p') (q + q') (timesF x y) :=
  red_fr (lt_mul hx.n hy.n) (Int.mul_pos hx.pos hy.pos) (lt_mul hx.d hy.d)
theorem over_fr (hx : Fr p q x) (hy : Fr p' q' y) (h0 : 0 < y.1) : Fr (p + q') (q + p') (overF x y) :=
  red_fr (lt_mul hx.n hy.d) (Int.mul_pos hx.pos h0) (lt_mul hx.d hy.n)
theorem plus_ok (hx : Fr p q x) (hy : Fr p' q' y) (h1 : p + q' < 1000000) (h2 : p' + q < 1000000) (h3 : q + q' < 9000) (μ : Sto) : m_plus [fD x, fD y] μ = .ok (fD (plusF x y)) μ := by
  refine run_rt ?_ (by simp [lab, labs])
  simp [b_plus, sRet, e2, eV, eC, eA, aC, aN, Res.bind, Res.out, -Int.reduceNeg, ix0, ix1, mul_ok hx.n hy.d h1, mul_ok hy.n hx.d h2, mul_ok hx.d hy.d (by omega), add_ok, fraction_ok (Int.mul_pos hx.pos hy.pos) (lt_mul hx.d hy.d) h3, plusF, minusF, timesF, overF]
theorem minus_ok (hx : Fr p q x) (hy : Fr p' q' y) (h1 : p + q' < 1000000) (h2 : p' + q < 1000000) (h3 : q + q' < 9000) (μ : Sto) : m_minus [fD x, fD y] μ = .ok (fD (minusF x y)) μ := by
  refine run_rt ?_ (by simp [lab, labs])
  simp [b_minus, sRet, e2, eV, eC, eA, aC, aN, Res.bind, Res.out, -Int.reduceNeg, ix0, ix1, mul_ok hx.n hy.d h1, mul_ok hy.n hx.d h2, mul_ok hx.d hy.d (by omega), sub_ok, fraction_ok (Int.mul_pos hx.pos hy.pos) (lt_mul hx.d hy.d) h3, plusF, minusF, timesF, overF]
theorem times_ok (hx : Fr p q x) (hy : Fr p' q' y) (h1 : p + p' < 1000000) (h3 : q + q' < 9000) (μ : Sto) : m_times [fD x, fD y] μ = .ok (fD (timesF x y)) μ := by
  refine run_rt ?_ (by simp [lab, labs])
  simp [b_times, sRet, e2, eV, eC, eA, aC, aN, Res.bind, Res.out, -Int.reduceNeg, ix0, ix1, mul_ok hx.n hy.n h1, mul_ok hx.d hy.d (by omega), fraction_ok (Int.mul_pos hx.pos hy.pos) (lt_mul hx.d hy.d) h3, plusF, minusF, timesF, overF]
theorem over_ok (hx : Fr p q x) (hy : Fr p' q' y) (h0 : 0 < y.1) (h1 : p + q' < 1000000) (h3 : q + p' < 9000) (μ : Sto) : m_over [fD x, fD y] μ = .ok (fD (overF x y)) μ := by
  refine run_rt ?_ (by simp [lab, labs])
  simp [b_over, sRet, e2, eV, eC, eA, aC, aN, Res.bind, Res.out, -Int.reduceNeg, ix0, ix1, mul_ok hx.n hy.d h1, mul_ok hx.d hy.n (by omega), fraction_ok (Int.mul_pos hx.pos h0) (lt_mul hx.d hy.n) h3, plusF, minusF, timesF, overF]
theorem less_ok (hx : Fr p q x) (hy : Fr p' q' y) (h1 : p + q' < 1000000) (h2 : p' + q < 1000000) (μ : Sto) : m_is_less [fD x, fD y] μ = .ok (.bl (decide (x.1 * y.2 < y.1 * x.2))) μ := by
  refine run_rt ?_ (by simp [lab])
  simp [b_is_less, sRet, e2, eV, eC, eA, aC, aN, Res.bind, Res.out, -Int.reduceNeg, ix0, ix1, mul_ok hx.n hy.d h1, mul_ok hy.n hx.d h2, lt_ok, plusF, minusF, timesF, overF]
theorem floor_ok (hx : Fr p q x) (h3 : q < 9000) (μ : Sto) : m_floor_of [fD x] μ = .ok (.int (x.1 / x.2)) μ := by
  refine run_rt ?_ (by simp [lab])
  simp [b_floor_of, sRet, e2, eV, eC, eA, aC, aN, Res.bind, Res.out, -Int.reduceNeg, ix0, ix1, div_ok hx.pos hx.d h3, plusF, minusF, timesF, overF]
end
end Pk59
end

section
set_option Elab.async false
set_option linter.all false
set_option autoImplicit false
set_option maxRecDepth 100000
set_option maxHeartbeats 1000000
namespace Pk59
open PySem DL
/-! kinds of values -/
theorem kb1 : L2.kitB "NoneType" "int" = some false := by decide +kernel
theorem kb2 : L2.kitB "bool" "int" = some true := by decide +kernel
theorem kb3 : L2.kitB "int" "int" = some true := by decide +kernel
theorem kb4 : L2.kitB "str" "int" = some false := by decide +kernel
theorem kb5 : L2.kitB "tuple" "int" = some false := by decide +kernel
theorem kb6 : L2.kitB "list" "int" = some false := by decide +kernel
theorem kb7 : L2.kitB "dict" "int" = some false := by decide +kernel
theorem kc2 : L2.kitB "bool" "bool" = some true := by decide +kernel
theorem kc3 : L2.kitB "int" "bool" = some false := by decide +kernel
theorem kd1 : L2.kitB "NoneType" "tuple" = some false := by decide +kernel
theorem kd2 : L2.kitB "bool" "tuple" = some false := by decide +kernel
theorem kd3 : L2.kitB "int" "tuple" = some false := by decide +kernel
theorem kd4 : L2.kitB "str" "tuple" = some false := by decide +kernel
theorem kd5 : L2.kitB "tuple" "tuple" = some true := by decide +kernel
theorem kd6 : L2.kitB "list" "tuple" = some false := by decide +kernel
theorem kd7 : L2.kitB "dict" "tuple" = some false := by decide +kernel
theorem ke1 : L2.kitB "NoneType" "list" = some false := by decide +kernel
theorem ke2 : L2.kitB "bool" "list" = some false := by decide +kernel
theorem ke3 : L2.kitB "int" "list" = some false := by decide +kernel
theorem ke4 : L2.kitB "str" "list" = some false := by decide +kernel
theorem ke5 : L2.kitB "tuple" "list" = some false := by decide +kernel
theorem ke6 : L2.kitB "list" "list" = some true := by decide +kernel
theorem ke7 : L2.kitB "dict" "list" = some false := by decide +kernel
/-- values that are no object of one's own -/
def pl : D → Bool
  | .non => true
  | .bl _ => true
  | .int _ => true
  | .str _ => true
  | .tup _ => true
  | .lst _ => true
  | .dK _ _ => true
  | .dT _ _ => true
  | _ => false
def isI : D → Bool
  | .int _ => true
  | _ => false
def isT : D → Bool
  | .tup _ => true
  | _ => false
def isLT : D → Bool
  | .tup _ => true
  | .lst _ => true
  | _ => false
theorem whole_ok (d : D) (h : pl d = true) (μ : Sto) : m_is_whole [d] μ = .ok (.bl (isI d)) μ := by
  refine run_rt ?_ (by simp [lab])
  cases d <;> first | (cases h; done) | simp [b_is_whole, sRet, eAnd, e1, eA, aC, aN, eV, eC, Res.bind, Res.out, oIs, tyD, cOf, kind1, kb1, kb2, kb3, kb4, kb5, kb6, kb7, kc2, kc3, oNot, isI]
theorem wwhole_ok (d : D) (h : pl d = true) (μ : Sto) : m_w_is_whole [d] μ = .ok (.bl (isI d)) μ := by
  refine run_rt ?_ (by simp [lab])
  cases d <;> first | (cases h; done) | simp [b_w_is_whole, sRet, eAnd, e1, eA, aC, aN, eV, eC, Res.bind, Res.out, oIs, tyD, cOf, kind1, kb1, kb2, kb3, kb4, kb5, kb6, kb7, kc2, kc3, oNot, isI]
theorem isT_ok (d : D) (h : pl d = true) (μ : Sto) : oIs noK [d, .ty "tuple"] μ = .ok (.bl (isT d)) μ := by
  cases d <;> first | (cases h; done) | simp [oIs, tyD, cOf, kind1, kd1, kd2, kd3, kd4, kd5, kd6, kd7, isT]
theorem isLT_ok {f : FD} {ρ : DL.Env} {μ : Sto} {d : D} (h : pl d = true) (hf : f ρ μ = .ok d μ) : eIsT noK f (aC (eC (.ty "list")) (aC (eC (.ty "tuple")) aN)) ρ μ = .ok (.bl (isLT d)) μ := by
  cases d <;> first | (cases h; done) | simp [eIsT, hf, aC, aN, eC, Res.bind, tyD, cOf, isC, notC, anyK, kind1, kd1, kd2, kd3, kd4, kd5, kd6, kd7, ke1, ke2, ke3, ke4, ke5, ke6, ke7, isLT]
theorem blsD_map {α : Type} (p : α → Bool) : ∀ l : List α, blsD (l.map fun x => D.bl (p x)) = some (l.map p)
  | [] => rfl
  | x :: l => by simp [blsD, blsD_map p l]
theorem all_ok {α : Type} (p : α → Bool) (l : List α) (μ : Sto) : oAll false [.lst (l.map fun x => D.bl (p x))] μ = .ok (.bl (l.all p)) μ := by
  simp [oAll, cOf, blsD_map, List.all_map, Function.comp_def]
/-- is it a weight -/
def wt : D → Bool
  | .tup [.int a, .int b] => decide (0 < b) && (decide (Int.gcd a b = 1) && decide (0 < a))
  | _ => false
def fr : D → Bool
  | .tup [.int a, .int b] => decide (0 < b) && decide (Int.gcd a b = 1)
  | _ => false
def pl2 (d : D) : Bool := pl d && (match d with
  | .tup l => l.all pl
  | _ => true)
theorem fiSeq_lst {ρ : DL.Env} {μ : Sto} {f : FD} {l : List D} (h : f ρ μ = .ok (.lst l) μ) : fiSeq f ρ μ = .ok (l, none) μ := by
  unfold fiSeq
  rw [h]
  rfl
theorem fiSeq_tup {ρ : DL.Env} {μ : Sto} {f : FD} {l : List D} (h : f ρ μ = .ok (.tup l) μ) : fiSeq f ρ μ = .ok (l, none) μ := by
  unfold fiSeq
  rw [h]
  rfl
theorem len_tup (l : List D) (μ : Sto) : oLen [.tup l] μ = .ok (.int (l.length : Nat)) μ := rfl
theorem len_lst (l : List D) (μ : Sto) : oLen [.lst l] μ = .ok (.int (l.length : Nat)) μ := rfl
theorem isI_int {d : D} (h : isI d = true) : ∃ i, d = .int i := by
  cases d with
  | int i => exact ⟨i, rfl⟩
  | _ => cases h
theorem all_tt (μ : Sto) : oAll false [.lst [.bl true, .bl true]] μ = .ok (.bl true) μ := rfl
/-- the three tests ahead of both weights' words -/
def tri (l : List D) : Bool := (l.length == 2) && l.all isI
theorem tri_ok {l : List D} (h : tri l = true) : ∃ a b, l = [.int a, .int b] := by
  unfold tri at h
  rw [Bool.and_eq_true] at h
  obtain ⟨h1, h2⟩ := h
  match l, h1, h2 with
  | [x, y], _, h2 =>
    simp at h2
    obtain ⟨i, rfl⟩ := isI_int h2.1
    obtain ⟨j, rfl⟩ := isI_int h2.2
    exact ⟨i, j, rfl⟩
theorem fr_tri {l : List D} (h : tri l = false) : fr (.tup l) = false ∧ wt (.tup l) = false := by
  match l, h with
  | [], _ => exact ⟨rfl, rfl⟩
  | [x], _ => exact ⟨by cases x <;> rfl, by cases x <;> rfl⟩
  | [x, y], h => cases x <;> cases y <;> first | exact ⟨rfl, rfl⟩ | (cases h; done)
  | x :: y :: z :: r, _ => exact ⟨by cases x <;> cases y <;> rfl, by cases x <;> cases y <;> rfl⟩
theorem frac_ok (d : D) (h : pl2 d = true) (hz : ∀ l, d = .tup l → l.length ≤ 1000) (μ : Sto) : m_is_fraction [d] μ = .ok (.bl (fr d)) μ := by
  have h1 : pl d = true := (Bool.and_eq_true_iff.mp h).1
  refine run_rt ?_ (by simp [lab])
  by_cases ht : isT d = true
  · cases d with
    | tup l =>
      have h2 : l.all pl = true := (Bool.and_eq_true_iff.mp h).2
      have hl := hz l rfl
      have hc : eLc (fiSeq (eV 0)) (gN 1) [1] tTrue (eA m_is_whole (aC (eV 1) aN)) [some (.tup l), none] μ = .ok (.lst (l.map fun d => D.bl (isI d))) μ :=
        lc1 (fiSeq_tup rfl) trivial (by omega) fun d hd => by
          simp only [wipeE, List.set, eA, aC, aN, eV, Res.bind, List.getElem?_cons_succ, List.getElem?_cons_zero]
          exact whole_ok d (List.all_eq_true.mp h2 d hd) μ
      have el : ((l.length : Nat) : Int) = 2 ↔ l.length = 2 := by omega
      cases z : tri l with
      | true =>
        obtain ⟨a, b, rfl⟩ := tri_ok z
        by_cases hb : 0 < b
        · simp [b_is_fraction, sSeq, sIf, sNx, sRet, tOr, tNot, tB, e2, eAnd, eA, aC, aN, eV, eC, Res.bind, Res.out, isT_ok _ h1, isT, len_tup, ne_int, hc, all_tt, isI, ix0, ix1, gt_ok, hb, common_ok a b (Int.le_of_lt hb), eq_int, fr]
          omega
        · simp [b_is_fraction, sSeq, sIf, sNx, sRet, tOr, tNot, tB, e2, eAnd, eA, aC, aN, eV, eC, Res.bind, Res.out, isT_ok _ h1, isT, len_tup, ne_int, hc, all_tt, isI, ix0, ix1, gt_ok, hb, fr]
      | false =>
        rw [(fr_tri z).1]
        by_cases z2 : l.length = 2
        · have z3 : l.all isI = false := by
            unfold tri at z
            simpa [z2] using z
          simp [b_is_fraction, sSeq, sIf, sNx, sRet, tOr, tNot, tB, e2, eAnd, eA, aC, aN, eV, eC, Res.bind, Res.out, isT_ok _ h1, isT, len_tup, ne_int, hc, all_ok, el, z2, z3]
        · simp [b_is_fraction, sSeq, sIf, sNx, sRet, tOr, tNot, tB, e2, eAnd, eA, aC, aN, eV, eC, Res.bind, Res.out, isT_ok _ h1, isT, len_tup, ne_int, hc, all_ok, el, z2]
    | _ => cases ht
  · have ht' : isT d = false := Bool.eq_false_iff.mpr ht
    have e : fr d = false := by cases d <;> first | rfl | (cases ht'; done)
    simp [b_is_fraction, sSeq, sIf, sNx, sRet, tOr, tNot, tB, eA, aC, aN, eV, eC, Res.bind, Res.out, isT_ok _ h1, ht', e]
end Pk59
end

section
set_option Elab.async false
set_option linter.all false
set_option autoImplicit false
set_option maxRecDepth 100000
set_option maxHeartbeats 1000000
namespace Pk59
open PySem DL
def sh (d : D) : Bool := match d with
  | .tup l => decide (l.length ≤ 1000)
  | _ => true
def ge (d : D) : Bool := pl2 d && sh d
theorem ge_pl {d : D} (h : ge d = true) : pl d = true := by
  unfold ge pl2 at h
  simp only [Bool.and_eq_true] at h
  exact h.1.1
theorem frac_ok' (d : D) (h : ge d = true) (μ : Sto) : m_is_fraction [d] μ = .ok (.bl (fr d)) μ := by
  unfold ge at h
  rw [Bool.and_eq_true] at h
  refine frac_ok d h.1 (fun l e => ?_) μ
  have := h.2
  subst e
  simpa [sh] using this
theorem fr_shape {d : D} (h : fr d = true) : ∃ a b, d = .tup [.int a, .int b] ∧ 0 < b ∧ Int.gcd a b = 1 := by
  unfold fr at h
  split at h
  · rename_i a b
    simp only [Bool.and_eq_true, decide_eq_true_eq] at h
    exact ⟨a, b, rfl, h.1, h.2⟩
  · cases h
theorem wt_of_fr {d : D} (h : fr d = false) : wt d = false := by
  unfold fr at h
  unfold wt
  split
  · rename_i a b
    simp only at h
    rw [← Bool.and_assoc, h]
    rfl
  · rfl
theorem weight_ok (d : D) (h : ge d = true) (μ : Sto) : m_is_weight [d] μ = .ok (.bl (wt d)) μ := by
  refine run_rt ?_ (by simp [lab])
  cases z : fr d with
  | false => simp [b_is_weight, sRet, eAnd, eA, aC, aN, eV, Res.bind, Res.out, frac_ok' d h, z, wt_of_fr z]
  | true =>
    obtain ⟨a, b, rfl, hb, hg⟩ := fr_shape z
    simp [b_is_weight, sRet, eAnd, e2, eA, aC, aN, eV, eC, Res.bind, Res.out, frac_ok' _ h, z, ix0, gt_ok, wt, hb, hg]
def itemsD : D → List D
  | .tup l => l
  | .lst l => l
  | _ => []
/-- weights, as they may be handed in -/
def gw (d : D) : Prop := pl d = true ∧ (∀ x ∈ itemsD d, ge x = true) ∧ (itemsD d).length ≤ 1000
def aw (d : D) : Bool := isLT d && (decide (1 ≤ (itemsD d).length ∧ (itemsD d).length ≤ 12) && (itemsD d).all wt)
theorem lt_shape {d : D} (h : isLT d = true) : d = .tup (itemsD d) ∨ d = .lst (itemsD d) := by
  cases d with
  | tup l => exact .inl rfl
  | lst l => exact .inr rfl
  | _ => cases h
theorem seq_items {d : D} (h : isLT d = true) {f : FD} {ρ : DL.Env} {μ : Sto} (hf : f ρ μ = .ok d μ) : fiSeq f ρ μ = .ok (itemsD d, none) μ := by
  rcases lt_shape h with e | e
  · rw [e] at hf
    exact fiSeq_tup hf
  · rw [e] at hf
    exact fiSeq_lst hf
theorem len_items {d : D} (h : isLT d = true) (μ : Sto) : oLen [d] μ = .ok (.int ((itemsD d).length : Nat)) μ := by
  rcases lt_shape h with e | e
  · rw [e]; rfl
  · rw [e]; rfl
theorem chain_ok {f : FD} {ρ : DL.Env} {μ : Sto} {n : Nat} (hf : f ρ μ = .ok (.int (n : Int)) μ) : eChain oLe oLe (eC (.int 1)) f (eC (.int 12)) ρ μ = .ok (.bl (decide (1 ≤ n ∧ n ≤ 12))) μ := by
  unfold eChain
  simp only [eC, Res.bind, hf, iI, cOf, if_true]
  by_cases h : (1 : Int) ≤ n
  · have h' : 1 ≤ n := by omega
    simp [h, h']
    omega
  · have h' : ¬ 1 ≤ n := by omega
    simp [h, h']
theorem weights_ok (d : D) (h : gw d) (μ : Sto) : m_are_weights [d] μ = .ok (.bl (aw d)) μ := by
  obtain ⟨h1, h2, h3⟩ := h
  refine run_rt ?_ (by simp [lab])
  have hl := isLT_ok (f := eV 0) (ρ := [some d, none]) (μ := μ) h1 rfl
  cases z : isLT d with
  | false =>
    rw [z] at hl
    simp [b_are_weights, sSeq, sIf, sNx, sRet, tOr, tNot, tB, eC, Res.bind, Res.out, hl, aw, z]
  | true =>
    rw [z] at hl
    have hn : (eA oLen (aC (eV 0) aN)) [some d, none] μ = .ok (.int ((itemsD d).length : Nat)) μ := by
      simp [eA, aC, aN, eV, Res.bind, len_items z]
    have hch := chain_ok hn
    have hc : eLc (fiSeq (eV 0)) (gN 1) [1] tTrue (eA m_is_weight (aC (eV 1) aN)) [some d, none] μ = .ok (.lst ((itemsD d).map fun x => D.bl (wt x))) μ :=
      lc1 (seq_items z rfl) trivial (by omega) fun x hx => by
        simp only [wipeE, List.set, eA, aC, aN, eV, Res.bind, List.getElem?_cons_succ, List.getElem?_cons_zero]
        exact weight_ok x (h2 x hx) μ
    by_cases k : 1 ≤ (itemsD d).length ∧ (itemsD d).length ≤ 12
    · simp only [k] at hch
      simp [b_are_weights, sSeq, sIf, sNx, sRet, tOr, tNot, tB, eC, Res.bind, Res.out, hl, hch, aw, z, k]
      simp [eA, aC, aN, Res.bind, hc, all_ok]
    · have k' : decide (1 ≤ (itemsD d).length ∧ (itemsD d).length ≤ 12) = false := decide_eq_false k
      rw [k'] at hch
      simp [b_are_weights, sSeq, sIf, sNx, sRet, tOr, tNot, tB, eC, Res.bind, Res.out, hl, hch, aw, z]
      intro q1 q2
      exact absurd ⟨q1, q2⟩ k
/-! the law's own words -/
theorem low_loop (μ : Sto) (d e : D) : ∀ (n : Nat) (a b : Int), 0 ≤ a → 0 ≤ b → b.toNat ≤ n → sWh (tB (e2 oGt (eV 3) (eC (.int 0)))) (sPar 2 3 (aC (eV 3) (aC (e2 oMod (eV 2) (eV 3)) aN))) [some d, some e, some (.int a), some (.int b)] μ = .nx [some d, some e, some (.int (Int.gcd a b : Int)), some (.int 0)] μ := by
  intro n
  induction n with
  | zero =>
    intro a b h0 h1 h2
    have e1 : b = 0 := by omega
    subst e1
    have : ((Int.gcd a 0 : Nat) : Int) = a := by simp; omega
    rw [this]
    refine sWh_end (μ1 := μ) ?_
    simp [tB, e2, eV, eC, Res.bind, gt_ok]
  | succ n ih =>
    intro a b h0 h1 h2
    by_cases e1 : b = 0
    · subst e1
      have : ((Int.gcd a 0 : Nat) : Int) = a := by simp; omega
      rw [this]
      refine sWh_end (μ1 := μ) ?_
      simp [tB, e2, eV, eC, Res.bind, gt_ok]
    · have hp : 0 < b := by omega
      have m0 := Int.emod_nonneg a e1
      have m1 := Int.emod_lt_of_pos a hp
      have := ih b (a % b) h1 m0 (by omega)
      rw [gcd_mod] at this
      refine sWh_step (μ1 := μ) (ρ2 := [some d, some e, some (.int b), some (.int (a % b))]) (μ2 := μ) ?_ ?_ this (by simp)
      · simp [tB, e2, eV, eC, Res.bind, gt_ok, hp]
      · simp [sPar, aC, aN, e2, eV, eC, Res.bind, Res.out, iI, cOf, hp]
theorem low_ok {a b : Int} {q : Nat} (hb : 0 < b) (hq : b.natAbs < 2 ^ q) (h : q < 9000) (μ : Sto) : m_w_low [.int a, .int b] μ = .ok (fD (red a b)) μ := by
  have g0 := gcd_pos (a := a) hb
  have g1 : Int.gcd a b < 2 ^ q := by
    have := Int.gcd_le_right a hb
    omega
  have g2 : (Int.gcd a b).log2 < 9000 := by
    have := log2_le g1
    omega
  have nl : ¬ b < 0 := by omega
  have hw := low_loop μ (.int a) (.int b) b.natAbs (a.natAbs : Int) (b.natAbs : Int) (by omega) (by omega) (by omega)
  have eg : Int.gcd (a.natAbs : Int) (b.natAbs : Int) = Int.gcd a b := by simp [Int.gcd]
  rw [eg] at hw
  refine run_rt ?_ (by simp [lab, labs, red])
  simp [b_w_low, sSeq, sPar, sIf, sNx, sSet, sRet, tB, e2, eV, eC, eA, aC, aN, Res.bind, Res.out, abs_eq]
  rw [hw]
  have nb : ¬ b = 0 := by omega
  simp [e2, eV, eC, Res.bind, iI, cOf, nl, nb, g0, g2, red, tup2]
theorem red_one {a b : Int} (hb : 0 < b) : red a b = (a, b) ↔ Int.gcd a b = 1 := by
  constructor
  · intro h
    have h2 : b / (Int.gcd a b : Int) = b := congrArg Prod.snd h
    have hm := Int.ediv_mul_cancel (Int.gcd_dvd_right a b)
    rw [h2] at hm
    have : (Int.gcd a b : Int) = 1 := by
      have e : b * (Int.gcd a b : Int) = b * 1 := by rw [hm]; simp
      exact Int.eq_of_mul_eq_mul_left (by omega) e
    omega
  · intro h
    simp [red, h]
theorem eq_fD (x y : Int × Int) (μ : Sto) : oEq false (fD x) (fD y) μ = .ok (.bl (decide (x = y))) μ := by
  obtain ⟨a, b⟩ := x
  obtain ⟨c, d⟩ := y
  simp [oEq, strE, cOf, toPy, toPys, SeqAt.shaped, PyData.eqv, PyData.eqvAll, PyData.canLay0, PyData.canLayAll0, PyData.depth, PyData.depthAll, beq_dec, Prod.mk.injEq]
/-- the whole numbers in it are small -/
def sm (d : D) : Bool := match d with
  | .tup [.int a, .int b] => decide (a.natAbs < 2 ^ 40) && decide (b.natAbs < 2 ^ 40)
  | _ => true
theorem wweight_ok (d : D) (h : ge d = true) (hs : sm d = true) (μ : Sto) : m_w_is_weight [d] μ = .ok (.bl (wt d)) μ := by
  have h1 := ge_pl h
  refine run_rt ?_ (by simp [lab])
  by_cases ht : isT d = true
  · cases d with
    | tup l =>
      unfold ge pl2 sh at h
      simp only [Bool.and_eq_true, decide_eq_true_eq] at h
      have h2 : l.all pl = true := h.1.2
      have hl : l.length ≤ 1000 := h.2
      have hc : eLc (fiSeq (eV 0)) (gN 1) [1] tTrue (eA m_w_is_whole (aC (eV 1) aN)) [some (.tup l), none] μ = .ok (.lst (l.map fun d => D.bl (isI d))) μ :=
        lc1 (fiSeq_tup rfl) trivial (by omega) fun d hd => by
          simp only [wipeE, List.set, eA, aC, aN, eV, Res.bind, List.getElem?_cons_succ, List.getElem?_cons_zero]
          exact wwhole_ok d (List.all_eq_true.mp h2 d hd) μ
      have el : ((l.length : Nat) : Int) = 2 ↔ l.length = 2 := by omega
      cases z : tri l with
      | true =>
        obtain ⟨a, b, rfl⟩ := tri_ok z
        simp only [sm, Bool.and_eq_true, decide_eq_true_eq] at hs
        by_cases ha : 0 < a
        · by_cases hb : 0 < b
          · have el2 : oEq false (fD (red a b)) (.tup [.int a, .int b]) μ = .ok (.bl (decide (Int.gcd a b = 1))) μ := by
              have := eq_fD (red a b) (a, b) μ
              rw [show (decide (red a b = (a, b))) = decide (Int.gcd a b = 1) by simp [red_one hb]] at this
              exact this
            simp [b_w_is_weight, sSeq, sIf, sNx, sRet, tOr, tNot, tB, e2, eAnd, eA, aC, aN, eV, eC, Res.bind, Res.out, isT_ok _ h1, isT, len_tup, ne_int, hc, all_tt, isI, ix0, ix1, gt_ok, hb, ha, low_ok hb hs.2 (by omega), el2, wt]
          · simp [b_w_is_weight, sSeq, sIf, sNx, sRet, tOr, tNot, tB, e2, eAnd, eA, aC, aN, eV, eC, Res.bind, Res.out, isT_ok _ h1, isT, len_tup, ne_int, hc, all_tt, isI, ix0, ix1, gt_ok, hb, ha, wt]
        · simp [b_w_is_weight, sSeq, sIf, sNx, sRet, tOr, tNot, tB, e2, eAnd, eA, aC, aN, eV, eC, Res.bind, Res.out, isT_ok _ h1, isT, len_tup, ne_int, hc, all_tt, isI, ix0, ix1, gt_ok, ha, wt]
      | false =>
        rw [(fr_tri z).2]
        by_cases z2 : l.length = 2
        · have z3 : l.all isI = false := by
            unfold tri at z
            simpa [z2] using z
          simp [b_w_is_weight, sSeq, sIf, sNx, sRet, tOr, tNot, tB, e2, eAnd, eA, aC, aN, eV, eC, Res.bind, Res.out, isT_ok _ h1, isT, len_tup, ne_int, hc, all_ok, el, z2, z3]
        · simp [b_w_is_weight, sSeq, sIf, sNx, sRet, tOr, tNot, tB, e2, eAnd, eA, aC, aN, eV, eC, Res.bind, Res.out, isT_ok _ h1, isT, len_tup, ne_int, hc, all_ok, el, z2]
    | _ => cases ht
  · have ht' : isT d = false := Bool.eq_false_iff.mpr ht
    have e : wt d = false := by cases d <;> first | rfl | (cases ht'; done)
    simp [b_w_is_weight, sSeq, sIf, sNx, sRet, tOr, tNot, tB, eA, aC, aN, eV, eC, Res.bind, Res.out, isT_ok _ h1, ht', e]
/-! sums -/
theorem Fr.mono {p q p' q' : Nat} {x : Int × Int} (h : Fr p q x) (h1 : p ≤ p') (h2 : q ≤ q') : Fr p' q' x :=
  ⟨Nat.lt_of_lt_of_le h.n (Nat.pow_le_pow_right (by omega) h1), h.pos, Nat.lt_of_lt_of_le h.d (Nat.pow_le_pow_right (by omega) h2)⟩
def sumF (xs : List (Int × Int)) : Int × Int := xs.foldl plusF (0, 1)
theorem fr_nought : Fr 1 1 (0, 1) := ⟨by decide, by decide, by decide⟩
theorem sum_step {xs : List (Int × Int)} {i : Nat} {x : Int × Int} (h : xs[i]? = some x) : sumF (xs.take (i + 1)) = plusF (sumF (xs.take i)) x := by
  unfold sumF
  rw [List.take_add_one, h]
  simp
theorem sum_take {xs : List (Int × Int)} {p q N : Nat} (h : ∀ x ∈ xs, Fr p q x) (hN : xs.length ≤ N) : ∀ i, i ≤ xs.length → Fr (1 + i * (p + q + 2 + N * q)) (1 + i * q) (sumF (xs.take i))
  | 0, _ => by
    simp only [Nat.zero_mul, List.take_zero]
    exact fr_nought
  | i + 1, hi => by
    have e : xs[i]? = some xs[i] := List.getElem?_eq_getElem (by omega)
    rw [sum_step e]
    refine (plus_fr (sum_take h hN i (by omega)) (h _ (List.mem_of_getElem? e))).mono ?_ ?_
    · have h1 : i * q ≤ N * q := Nat.mul_le_mul_right q (by omega)
      rw [Nat.succ_mul]
      omega
    · rw [Nat.succ_mul]
      omega
theorem sum_fr {xs : List (Int × Int)} {p q N : Nat} (h : ∀ x ∈ xs, Fr p q x) (hN : xs.length ≤ N) : Fr (1 + N * (p + q + 2 + N * q)) (1 + N * q) (sumF xs) := by
  have := sum_take h hN xs.length (Nat.le_refl _)
  rw [List.take_length] at this
  exact this.mono (Nat.add_le_add_left (Nat.mul_le_mul_right _ hN) _) (Nat.add_le_add_left (Nat.mul_le_mul_right _ hN) _)
theorem sum_ok {xs : List (Int × Int)} {p q N : Nat} (h : ∀ x ∈ xs, Fr p q x) (hN : xs.length ≤ N) (h1 : 1 + N * (p + q + 2 + N * q) + p + q < 900000) (h2 : 1 + N * q + q < 9000) {d : D} (hd : d = .lst (xs.map fD) ∨ d = .tup (xs.map fD)) (μ : Sto) : m_sum_of [d] μ = .ok (fD (sumF xs)) μ := by
  have hseq : fiSeq (eV 0) [some d, some (fD (0, 1)), none] μ = .ok (xs.map fD, none) μ := by
    rcases hd with e | e <;> subst e <;> rfl
  obtain ⟨ρ', e1, o, e2⟩ := for_pure (tg := gN 2) (g := sSet 1 (eA m_plus (aC (eV 1) (aC (eV 2) aN)))) (μ := μ) (fun i ρ => ∃ o, ρ = [some d, some (fD (sumF (xs.take i))), o]) (xs.map fD) none trivial [some d, some (fD (0, 1)), none] ⟨none, rfl⟩ (by
    rintro i x ρ hx ⟨o, rfl⟩
    rw [List.getElem?_map] at hx
    cases z : xs[i]? with
    | none => rw [z] at hx; cases hx
    | some y =>
      rw [z] at hx
      cases hx
      have hi : i < xs.length := (List.getElem?_eq_some_iff.mp z).1
      have fa := sum_take h hN i (by omega)
      have fy := h y (List.mem_of_getElem? z)
      have b1 : i * q ≤ N * q := Nat.mul_le_mul_right q (by omega)
      have b2 : i * (p + q + 2 + N * q) ≤ N * (p + q + 2 + N * q) := Nat.mul_le_mul_right _ (by omega)
      refine ⟨_, _, rfl, ?_, some (fD y), by rw [sum_step z]⟩
      have hp := plus_ok fa fy (by omega) (by omega) (by omega) μ
      simp only [sSet, eA, aC, aN, eV, Res.bind, Res.out, List.set, List.getElem?_cons_succ, List.getElem?_cons_zero, hp])
  rw [List.length_map, List.take_length] at e2
  subst e2
  refine run_rt ?_ (by simp [lab, labs])
  have hseq' : fiSeq (eV 0) [some d, some (.tup [.int 0, .int 1]), none] μ = .ok (xs.map fD, none) μ := hseq
  have e1' : forL (gN 2) (sSet 1 (eA m_plus (aC (eV 1) (aC (eV 2) aN)))) none (xs.map fD) [some d, some (.tup [.int 0, .int 1]), none] μ = .nx [some d, some (fD (sumF xs)), o] μ := e1
  unfold b_sum_of sSeq
  have e2' : sSet 1 (eC (.tup [.int 0, .int 1])) ([d].map some ++ List.replicate (3 - [d].length) none) μ = .nx [some d, some (.tup [.int 0, .int 1]), none] μ := rfl
  rw [e2']
  simp only
  have e3 : sFor (fiSeq (eV 0)) (gN 2) (sSet 1 (eA m_plus (aC (eV 1) (aC (eV 2) aN)))) [some d, some (.tup [.int 0, .int 1]), none] μ = .nx [some d, some (fD (sumF xs)), o] μ := by
    unfold sFor
    rw [hseq']
    exact e1'
  rw [e3]
  rfl
def wsumF := sumF
theorem wsum_ok {x y : Int × Int} {p q p' q' : Nat} (hx : Fr p q x) (hy : Fr p' q' y) (h1 : p + q' < 1000000) (h2 : p' + q < 1000000) (h3 : q + q' < 9000) (μ : Sto) : m_w_sum [fD x, fD y] μ = .ok (fD (plusF x y)) μ := by
  refine run_rt ?_ (by simp [lab, labs])
  simp [b_w_sum, sRet, e2, eV, eC, eA, aC, aN, Res.bind, Res.out, -Int.reduceNeg, ix0, ix1, mul_ok hx.n hy.d h1, mul_ok hy.n hx.d h2, mul_ok hx.d hy.d (by omega), add_ok, low_ok (Int.mul_pos hx.pos hy.pos) (lt_mul hx.d hy.d) h3, plusF]
theorem total_ok {xs : List (Int × Int)} {p q N : Nat} (h : ∀ x ∈ xs, Fr p q x) (hN : xs.length ≤ N) (h1 : 1 + N * (p + q + 2 + N * q) + p + q < 900000) (h2 : 1 + N * q + q < 9000) {d : D} (hd : d = .lst (xs.map fD) ∨ d = .tup (xs.map fD)) (μ : Sto) : m_w_total [d] μ = .ok (fD (sumF xs)) μ := by
  have hseq : fiSeq (eV 0) [some d, some (.tup [.int 0, .int 1]), none] μ = .ok (xs.map fD, none) μ := by
    rcases hd with e | e <;> subst e <;> rfl
  obtain ⟨ρ', e1, o, e2⟩ := for_pure (tg := gN 2) (g := sSet 1 (eA m_w_sum (aC (eV 1) (aC (eV 2) aN)))) (μ := μ) (fun i ρ => ∃ o, ρ = [some d, some (fD (sumF (xs.take i))), o]) (xs.map fD) none trivial [some d, some (.tup [.int 0, .int 1]), none] ⟨none, rfl⟩ (by
    rintro i x ρ hx ⟨o, rfl⟩
    rw [List.getElem?_map] at hx
    cases z : xs[i]? with
    | none => rw [z] at hx; cases hx
    | some y =>
      rw [z] at hx
      cases hx
      have hi : i < xs.length := (List.getElem?_eq_some_iff.mp z).1
      have fa := sum_take h hN i (by omega)
      have fy := h y (List.mem_of_getElem? z)
      have b1 : i * q ≤ N * q := Nat.mul_le_mul_right q (by omega)
      have b2 : i * (p + q + 2 + N * q) ≤ N * (p + q + 2 + N * q) := Nat.mul_le_mul_right _ (by omega)
      refine ⟨_, _, rfl, ?_, some (fD y), by rw [sum_step z]⟩
      have hp := wsum_ok fa fy (by omega) (by omega) (by omega) μ
      simp only [sSet, eA, aC, aN, eV, Res.bind, Res.out, List.set, List.getElem?_cons_succ, List.getElem?_cons_zero, hp])
  rw [List.length_map, List.take_length] at e2
  subst e2
  refine run_rt ?_ (by simp [lab, labs])
  unfold b_w_total sSeq
  have e2' : sSet 1 (eA oTupN (aC (eC (.int 0)) (aC (eC (.int 1)) aN))) ([d].map some ++ List.replicate (3 - [d].length) none) μ = .nx [some d, some (.tup [.int 0, .int 1]), none] μ := rfl
  rw [e2']
  simp only
  have e3 : sFor (fiSeq (eV 0)) (gN 2) (sSet 1 (eA m_w_sum (aC (eV 1) (aC (eV 2) aN)))) [some d, some (.tup [.int 0, .int 1]), none] μ = .nx [some d, some (fD (sumF xs)), o] μ := by
    unfold sFor
    rw [hseq]
    exact e1
  rw [e3]
  rfl
end Pk59
end

section
set_option Elab.async false
set_option linter.all false
set_option autoImplicit false
set_option maxRecDepth 100000
set_option maxHeartbeats 1000000
namespace Pk59
open PySem DL
/-! values of fractions, by products -/
def Le (x : Int × Int) (n : Int) : Prop := x.1 ≤ n * x.2
theorem red_mul {a b : Int} (hb : 0 < b) : a = (red a b).1 * (Int.gcd a b : Int) ∧ b = (red a b).2 * (Int.gcd a b : Int) :=
  ⟨(Int.ediv_mul_cancel (Int.gcd_dvd_left a b)).symm, (Int.ediv_mul_cancel (Int.gcd_dvd_right a b)).symm⟩
theorem red_le {a b n : Int} (hb : 0 < b) (h : a ≤ n * b) : Le (red a b) n := by
  have g0 := gcd_pos (a := a) hb
  obtain ⟨e1, e2⟩ := red_mul (a := a) hb
  unfold Le
  have h1 : (red a b).1 * (Int.gcd a b : Int) ≤ (n * (red a b).2) * (Int.gcd a b : Int) := by
    rw [Int.mul_assoc, ← e1, ← e2]
    exact h
  exact Int.le_of_mul_le_mul_right h1 g0
theorem red_nonneg {a b : Int} (hb : 0 < b) (h : 0 ≤ a) : 0 ≤ (red a b).1 := Int.ediv_nonneg h (Int.le_of_lt (gcd_pos hb))
theorem red_pos {a b : Int} (hb : 0 < b) (h : 0 < a) : 0 < (red a b).1 := Int.ediv_pos_of_pos_of_dvd h (Int.le_of_lt (gcd_pos hb)) (Int.gcd_dvd_left a b)
theorem red_floor {a b : Int} (hb : 0 < b) : (red a b).1 / (red a b).2 = a / b := by
  have g0 := gcd_pos (a := a) hb
  obtain ⟨e1, e2⟩ := red_mul (a := a) hb
  have e : a / b = ((red a b).1 * (Int.gcd a b : Int)) / ((red a b).2 * (Int.gcd a b : Int)) := congr (congrArg (fun u v : Int => u / v) e1) e2
  rw [e, Int.mul_ediv_mul_of_pos_left _ _ g0]
theorem plus_le {x y : Int × Int} {n m : Int} (hx : 0 < x.2) (hy : 0 < y.2) (h1 : Le x n) (h2 : Le y m) : Le (plusF x y) (n + m) := by
  refine red_le (Int.mul_pos hx hy) ?_
  have a1 : x.1 * y.2 ≤ n * x.2 * y.2 := Int.mul_le_mul_of_nonneg_right h1 (Int.le_of_lt hy)
  have a2 : y.1 * x.2 ≤ m * y.2 * x.2 := Int.mul_le_mul_of_nonneg_right h2 (Int.le_of_lt hx)
  have e : (n + m) * (x.2 * y.2) = n * x.2 * y.2 + m * y.2 * x.2 := by
    rw [Int.add_mul, Int.mul_assoc n, Int.mul_assoc m, Int.mul_comm y.2 x.2]
  omega
theorem plus_nonneg {x y : Int × Int} (hx : 0 < x.2) (hy : 0 < y.2) (h1 : 0 ≤ x.1) (h2 : 0 ≤ y.1) : 0 ≤ (plusF x y).1 :=
  red_nonneg (Int.mul_pos hx hy) (Int.add_nonneg (Int.mul_nonneg h1 (Int.le_of_lt hy)) (Int.mul_nonneg h2 (Int.le_of_lt hx)))
theorem plus_pos {x y : Int × Int} (hx : 0 < x.2) (hy : 0 < y.2) (h1 : 0 ≤ x.1) (h2 : 0 < y.1) : 0 < (plusF x y).1 :=
  red_pos (Int.mul_pos hx hy) (Int.add_pos_of_nonneg_of_pos (Int.mul_nonneg h1 (Int.le_of_lt hy)) (Int.mul_pos h2 hx))
theorem plus_den {x y : Int × Int} (hx : 0 < x.2) (hy : 0 < y.2) : 0 < (plusF x y).2 :=
  Int.ediv_pos_of_pos_of_dvd (Int.mul_pos hx hy) (Int.le_of_lt (gcd_pos (Int.mul_pos hx hy))) (Int.gcd_dvd_right _ _)
theorem fold_den : ∀ (xs : List (Int × Int)) (a : Int × Int), 0 < a.2 → (∀ x ∈ xs, 0 < x.2) → 0 < (xs.foldl plusF a).2
  | [], a, h, _ => h
  | x :: xs, a, h, hx => fold_den xs _ (plus_den h (hx x List.mem_cons_self)) fun y hy => hx y (List.mem_cons_of_mem _ hy)
theorem fold_le {m : Int} : ∀ (xs : List (Int × Int)) (a : Int × Int) (n : Int), 0 < a.2 → Le a n → (∀ x ∈ xs, 0 < x.2 ∧ Le x m) → Le (xs.foldl plusF a) (n + xs.length * m)
  | [], a, n, _, h, _ => by simpa using h
  | x :: xs, a, n, h0, h, hx => by
    have h1 := hx x List.mem_cons_self
    have := fold_le xs (plusF a x) (n + m) (plus_den h0 h1.1) (plus_le h0 h1.1 h h1.2) fun y hy => hx y (List.mem_cons_of_mem _ hy)
    have e : n + m + (xs.length : Int) * m = n + ((x :: xs).length : Int) * m := by
      rw [List.length_cons]
      have : (((xs.length + 1 : Nat) : Int)) * m = (xs.length : Int) * m + m := by
        rw [Int.natCast_add, Int.add_mul]
        simp
      omega
    rw [e] at this
    exact this
theorem fold_nonneg : ∀ (xs : List (Int × Int)) (a : Int × Int), 0 < a.2 → 0 ≤ a.1 → (∀ x ∈ xs, 0 < x.2 ∧ 0 ≤ x.1) → 0 ≤ (xs.foldl plusF a).1
  | [], a, _, h, _ => h
  | x :: xs, a, h0, h, hx => by
    have h1 := hx x List.mem_cons_self
    exact fold_nonneg xs _ (plus_den h0 h1.1) (plus_nonneg h0 h1.1 h h1.2) fun y hy => hx y (List.mem_cons_of_mem _ hy)
theorem fold_pos : ∀ (xs : List (Int × Int)) (a : Int × Int), 0 < a.2 → 0 ≤ a.1 → (∀ x ∈ xs, 0 < x.2 ∧ 0 < x.1) → xs ≠ [] → 0 < (xs.foldl plusF a).1
  | [], a, _, h, _, hn => absurd rfl hn
  | x :: xs, a, h0, h, hx, _ => by
    have h1 := hx x List.mem_cons_self
    have p1 := plus_pos h0 h1.1 h h1.2
    have d1 := plus_den h0 h1.1
    by_cases e : xs = []
    · subst e
      exact p1
    · exact fold_pos xs _ d1 (Int.le_of_lt p1) (fun y hy => hx y (List.mem_cons_of_mem _ hy)) e
theorem floor_le {x : Int × Int} {n : Int} (h0 : 0 < x.2) (h : Le x n) : x.1 / x.2 ≤ n := by
  have := Int.ediv_le_ediv h0 h
  rwa [Int.mul_ediv_cancel _ (by omega)] at this
theorem le_bits {x : Int × Int} {n q k : Nat} (h0 : 0 < x.2) (hq : x.2.natAbs < 2 ^ q) (hn : 0 ≤ x.1) (h : Le x (n : Int)) (hk : n ≤ 2 ^ k) : x.1.natAbs < 2 ^ (k + q) := by
  unfold Le at h
  have e1 : (x.1.natAbs : Int) = x.1 := by omega
  have e2 : (x.2.natAbs : Int) = x.2 := by omega
  have h2 : (x.1.natAbs : Int) ≤ ((n * x.2.natAbs : Nat) : Int) := by
    rw [e1, Int.natCast_mul, e2]
    exact h
  have h3 : x.1.natAbs ≤ n * x.2.natAbs := by omega
  have p0 : 0 < 2 ^ k := Nat.pow_pos (by omega)
  calc x.1.natAbs ≤ n * x.2.natAbs := h3
    _ ≤ 2 ^ k * x.2.natAbs := Nat.mul_le_mul_right _ hk
    _ < 2 ^ k * 2 ^ q := Nat.mul_lt_mul_of_pos_left hq p0
    _ = 2 ^ (k + q) := (Nat.pow_add ..).symm
theorem floor_bits {x : Int × Int} {p q : Nat} (h : Fr p q x) : (x.1 / x.2).natAbs < 2 ^ p ∨ (x.1 / x.2).natAbs ≤ x.1.natAbs := .inr (Int.natAbs_ediv_le_natAbs _ _)
theorem floor_lt {x : Int × Int} {p q : Nat} (h : Fr p q x) : (x.1 / x.2).natAbs < 2 ^ p := Nat.lt_of_le_of_lt (Int.natAbs_ediv_le_natAbs _ _) h.n
theorem red_1 (a : Int) : red a 1 = (a, 1) := by simp [red]
theorem int_fr {a : Int} {p : Nat} (h : a.natAbs < 2 ^ p) : Fr p 1 (a, 1) := ⟨h, (show (0 : Int) < 1 by decide), (show (1 : Int).natAbs < 2 ^ 1 by decide)⟩
/-! good input -/
structure GoodW (d : D) (xs : List (Int × Int)) : Prop where
  it : d = .lst (xs.map fD) ∨ d = .tup (xs.map fD)
  fr : ∀ x ∈ xs, Fr 40 40 x
  pos : ∀ x ∈ xs, 0 < x.1
  len : xs.length ≤ 12
  ne : xs ≠ []
abbrev tot (xs : List (Int × Int)) := sumF xs
theorem tot_den {xs : List (Int × Int)} {p q : Nat} (h : ∀ x ∈ xs, Fr p q x) : 0 < (sumF xs).2 := fold_den xs (0, 1) (by decide) fun x hx => (h x hx).pos
theorem GoodW.tot {d : D} {xs : List (Int × Int)} (g : GoodW d xs) : Fr 525 481 (sumF xs) ∧ 0 < (sumF xs).1 := by
  have f := sum_fr (N := 12) g.fr g.len
  have hp : 0 < (sumF xs).1 := fold_pos xs (0, 1) (by decide) (by decide) (fun x hx => ⟨(g.fr x hx).pos, g.pos x hx⟩) g.ne
  have hl : Le (sumF xs) (0 + xs.length * ((2 ^ 40 : Nat) : Int)) := fold_le xs (0, 1) 0 (by decide) (by show (0 : Int) ≤ 0 * 1; decide) fun x hx => ⟨(g.fr x hx).pos, by
    have h1 := g.fr x hx
    have p1 := h1.pos
    have n1 := h1.n
    have g1 := g.pos x hx
    unfold Le
    have : x.1 ≤ ((2 ^ 40 : Nat) : Int) := by omega
    have h2 : ((2 ^ 40 : Nat) : Int) * 1 ≤ ((2 ^ 40 : Nat) : Int) * x.2 := Int.mul_le_mul_of_nonneg_left (by omega) (by decide)
    omega⟩
  have hl2 : Le (sumF xs) ((xs.length * 2 ^ 40 : Nat) : Int) := by
    have e : (0 : Int) + xs.length * ((2 ^ 40 : Nat) : Int) = ((xs.length * 2 ^ 40 : Nat) : Int) := by
      rw [Int.zero_add, Int.natCast_mul]
    rw [← e]
    exact hl
  have q : (sumF xs).2.natAbs < 2 ^ 481 := by
    have := f.d
    exact this
  refine ⟨⟨le_bits (k := 44) f.pos q (Int.le_of_lt hp) hl2 ?_, f.pos, q⟩, hp⟩
  have := g.len
  calc xs.length * 2 ^ 40 ≤ 12 * 2 ^ 40 := Nat.mul_le_mul_right _ this
    _ ≤ 2 ^ 44 := by decide
theorem GoodW.sum {d : D} {xs : List (Int × Int)} (g : GoodW d xs) (μ : Sto) : m_sum_of [d] μ = .ok (fD (sumF xs)) μ := sum_ok (N := 12) g.fr g.len (by decide) (by decide) g.it μ
theorem GoodW.total {d : D} {xs : List (Int × Int)} (g : GoodW d xs) (μ : Sto) : m_w_total [d] μ = .ok (fD (sumF xs)) μ := total_ok (N := 12) g.fr g.len (by decide) (by decide) g.it μ
theorem GoodW.seq {d : D} {xs : List (Int × Int)} (g : GoodW d xs) {f : FD} {ρ : DL.Env} {μ : Sto} (h : f ρ μ = .ok d μ) : fiSeq f ρ μ = .ok (xs.map fD, none) μ := by
  rcases g.it with e | e <;> subst e
  · exact fiSeq_lst h
  · exact fiSeq_tup h
/-- the step -/
structure GoodS (y : Int × Int) : Prop where
  fr : Fr 40 40 y
  pos : 0 < y.1
/-- how many steps there are -/
def manyF (xs : List (Int × Int)) (y : Int × Int) : Int := (overF (sumF xs) y).1 / (overF (sumF xs) y).2
theorem many_lt {xs : List (Int × Int)} {y : Int × Int} {d : D} (g : GoodW d xs) (gy : GoodS y) : (manyF xs y).natAbs < 2 ^ 565 := floor_lt (over_fr g.tot.1 gy.fr gy.pos)
theorem many_val {xs : List (Int × Int)} {y : Int × Int} {d : D} (g : GoodW d xs) (gy : GoodS y) : manyF xs y = ((sumF xs).1 * y.2) / ((sumF xs).2 * y.1) := red_floor (Int.mul_pos g.tot.1.pos gy.pos)
theorem many_zero {xs : List (Int × Int)} {y : Int × Int} {d : D} (g : GoodW d xs) (gy : GoodS y) : manyF xs y = 0 ↔ (sumF xs).1 * y.2 < y.1 * (sumF xs).2 := by
  rw [many_val g gy, Int.mul_comm y.1]
  have hb := Int.mul_pos g.tot.1.pos gy.pos
  have ha : 0 ≤ (sumF xs).1 * y.2 := Int.mul_nonneg (Int.le_of_lt g.tot.2) (Int.le_of_lt gy.fr.pos)
  constructor
  · intro h
    have := Int.lt_mul_ediv_self_add (x := (sumF xs).1 * y.2) hb
    rw [h] at this
    simpa using this
  · intro h
    exact Int.ediv_eq_zero_of_lt ha h
section
variable {d s : D} {xs : List (Int × Int)} {y : Int × Int}
theorem many_w (hd : gw d) (h : aw d = false) (s : D) (μ : Sto) : m_many_of [d, s] μ = .ex ⟨"NoWeights", none⟩ μ := by
  refine run_ex (ρ := [some d, some s, none]) ?_
  simp [b_many_of, sSeq, sIf, sRaise, tNot, tB, eA, aC, aN, eV, Res.bind, Res.out, weights_ok d hd, h]
theorem many_s (hd : gw d) (h : aw d = true) (hs : ge s = true) (h2 : wt s = false) (μ : Sto) : m_many_of [d, s] μ = .ex ⟨"NoStep", none⟩ μ := by
  refine run_ex (ρ := [some d, some s, none]) ?_
  simp [b_many_of, sSeq, sIf, sNx, sRaise, tNot, tB, eA, aC, aN, eV, Res.bind, Res.out, weights_ok d hd, h, weight_ok s hs, h2]
theorem many_l (hd : gw d) (h : aw d = true) (g : GoodW d xs) (gy : GoodS y) (hs : ge (fD y) = true) (h2 : wt (fD y) = true) (hm : manyF xs y = 0) (μ : Sto) : m_many_of [d, fD y] μ = .ex ⟨"TooLittle", none⟩ μ := by
  have fo := over_fr g.tot.1 gy.fr gy.pos
  have hf := floor_ok fo (by omega) μ
  rw [show (overF (sumF xs) y).1 / (overF (sumF xs) y).2 = 0 from hm] at hf
  refine run_ex (ρ := [some d, some (fD y), some (.int 0)]) ?_
  simp [b_many_of, sSeq, sIf, sNx, sSet, sRaise, tNot, tB, e2, eC, eA, aC, aN, eV, Res.bind, Res.out, weights_ok d hd, h, weight_ok _ hs, h2, g.sum, over_ok g.tot.1 gy.fr gy.pos, hf, eq_int]
theorem many_m (hd : gw d) (h : aw d = true) (g : GoodW d xs) (gy : GoodS y) (hs : ge (fD y) = true) (h2 : wt (fD y) = true) (hm : manyF xs y ≠ 0) (μ : Sto) : m_many_of [d, fD y] μ = .ok (.int (manyF xs y)) μ := by
  have fo := over_fr g.tot.1 gy.fr gy.pos
  have hf := floor_ok fo (by omega) μ
  rw [show (overF (sumF xs) y).1 / (overF (sumF xs) y).2 = manyF xs y from rfl] at hf
  refine run_rt ?_ (by simp [lab])
  simp [b_many_of, sSeq, sIf, sNx, sSet, sRet, sRaise, tNot, tB, e2, eC, eA, aC, aN, eV, Res.bind, Res.out, weights_ok d hd, h, weight_ok _ hs, h2, g.sum, over_ok g.tot.1 gy.fr gy.pos, hf, eq_int, hm]
end
end Pk59
end

section
set_option Elab.async false
set_option linter.all false
set_option autoImplicit false
set_option maxRecDepth 100000
set_option maxHeartbeats 1000000
set_option exponentiation.threshold 3000
namespace Pk59
open PySem DL
def lift (f : Int × Int → D) : D → D
  | .tup [.int a, .int b] => f (a, b)
  | _ => .non
theorem lift_fD (f : Int × Int → D) (x : Int × Int) : lift f (fD x) = f x := rfl
theorem map_lift (f : Int × Int → D) (xs : List (Int × Int)) : (xs.map fD).map (lift f) = xs.map f := by
  rw [List.map_map]
  rfl
/-! aims -/
def aimF (xs : List (Int × Int)) (y w : Int × Int) : Int × Int := timesF (overF w (sumF xs)) (manyF xs y, 1)
section
variable {d : D} {xs : List (Int × Int)} {y : Int × Int} {c : Str} {s : D}
theorem aim_fr (g : GoodW d xs) (gy : GoodS y) {w : Int × Int} (hw : w ∈ xs) : Fr 1086 566 (aimF xs y w) :=
  times_fr (over_fr (g.fr w hw) g.tot.1 g.tot.2) (int_fr (many_lt g gy))
theorem aims_ex (h : ∀ μ, m_many_of [d, s] μ = .ex ⟨c, none⟩ μ) (μ : Sto) : m_aims [d, s] μ = .ex ⟨c, none⟩ μ := by
  refine run_ex (ρ := [some d, some s, none, none, none]) ?_
  simp [b_aims, sSeq, sSet, eA, aC, aN, eV, eC, Res.bind, Res.out, h]
theorem labs_fD : ∀ (l : List (Int × Int)), labs (l.map fD) = 0
  | [] => rfl
  | x :: l => by
    show max (lab (fD x)) (labs (l.map fD)) = 0
    rw [labs_fD l]
    rfl
theorem labs_int {α : Type} (f : α → Int) : ∀ (l : List α), labs (l.map fun x => D.int (f x)) = 0
  | [] => rfl
  | x :: l => by
    show max 0 (labs (l.map _)) = 0
    rw [labs_int f l]
    rfl
theorem aims_ok (g : GoodW d xs) (gy : GoodS y) (h : ∀ μ, m_many_of [d, fD y] μ = .ok (.int (manyF xs y)) μ) (μ : Sto) : m_aims [d, fD y] μ = .ok (.lst (xs.map fun w => fD (aimF xs y w))) μ := by
  have hm := fraction_ok (a := manyF xs y) (b := 1) (q := 1) (by decide) (by decide) (by decide) μ
  rw [red_1] at hm
  have hc : eLc (fiSeq (eV 0)) (gN 4) [4] tTrue (eA m_times (aC (eA m_over (aC (eV 4) (aC (eV 3) aN))) (aC (eV 2) aN))) [some d, some (fD y), some (fD (manyF xs y, 1)), some (fD (sumF xs)), none] μ = .ok (.lst (xs.map fun w => fD (aimF xs y w))) μ := by
    have := lc1 (fi := fiSeq (eV 0)) (i := 4) (te := eA m_times (aC (eA m_over (aC (eV 4) (aC (eV 3) aN))) (aC (eV 2) aN))) (ρ := [some d, some (fD y), some (fD (manyF xs y, 1)), some (fD (sumF xs)), none]) (μ := μ) (F := lift fun w => fD (aimF xs y w)) (g.seq rfl) trivial (by rw [List.length_map]; have := g.len; omega) (fun q hq => by
      obtain ⟨w, hw, rfl⟩ := List.mem_map.mp hq
      rw [lift_fD]
      simp only [wipeE, List.set, eA, aC, aN, eV, Res.bind, List.getElem?_cons_succ, List.getElem?_cons_zero]
      rw [over_ok (g.fr w hw) g.tot.1 g.tot.2 (by decide) (by decide)]
      simp only
      exact times_ok (over_fr (g.fr w hw) g.tot.1 g.tot.2) (int_fr (many_lt g gy)) (by decide) (by decide) μ)
    rw [map_lift] at this
    exact this
  refine run_rt ?_ (by
    show labs (xs.map fun w => fD (aimF xs y w)) ≤ _
    have := labs_fD (xs.map (aimF xs y))
    rw [List.map_map] at this
    rw [show (xs.map fun w => fD (aimF xs y w)) = xs.map (fD ∘ aimF xs y) from rfl, this]
    exact Nat.zero_le _)
  simp only [b_aims, sSeq, sSet, sRet, eA, aC, aN, eV, eC, Res.bind, Res.out, List.map_cons, List.map_nil, List.length_cons, List.length_nil, h]
  simp [h, hm, g.sum, hc]
/-! rests -/
def restF (x : Int × Int) : Int × Int := minusF x (x.1 / x.2, 1)
theorem rest_fr {x : Int × Int} {p q : Nat} (h : Fr p q x) : Fr (p + 1 + (p + q) + 1) (q + 1) (restF x) := minus_fr h (int_fr (floor_lt h))
theorem rest_le {x : Int × Int} (h : 0 < x.2) : Le (restF x) 1 ∧ 0 ≤ (restF x).1 := by
  have e : x.1 * 1 - x.1 / x.2 * x.2 = x.1 % x.2 := by
    have := Int.mul_ediv_add_emod x.1 x.2
    rw [Int.mul_comm (x.1 / x.2)]
    omega
  have hb : 0 < x.2 * 1 := by omega
  refine ⟨red_le hb ?_, red_nonneg hb ?_⟩
  · show x.1 * 1 - x.1 / x.2 * x.2 ≤ 1 * (x.2 * 1)
    rw [e]
    have := Int.emod_lt_of_pos x.1 h
    omega
  · show 0 ≤ x.1 * 1 - x.1 / x.2 * x.2
    rw [e]
    exact Int.emod_nonneg _ (by omega)
theorem rests_ok {ys : List (Int × Int)} {p q : Nat} (h : ∀ x ∈ ys, Fr p q x) (hl : ys.length ≤ 12) (h1 : 2 * p + q < 900000) (h2 : q + 1 < 9000) (μ : Sto) : m_rests_of [.lst (ys.map fD)] μ = .ok (.lst (ys.map fun x => fD (restF x))) μ := by
  have hc : eLc (fiSeq (eV 0)) (gN 1) [1] tTrue (eA m_minus (aC (eV 1) (aC (eA m_fraction (aC (eA m_floor_of (aC (eV 1) aN)) (aC (eC (.int 1)) aN))) aN))) [some (.lst (ys.map fD)), none] μ = .ok (.lst (ys.map fun x => fD (restF x))) μ := by
    have := lc1 (fi := fiSeq (eV 0)) (i := 1) (te := eA m_minus (aC (eV 1) (aC (eA m_fraction (aC (eA m_floor_of (aC (eV 1) aN)) (aC (eC (.int 1)) aN))) aN))) (ρ := [some (.lst (ys.map fD)), none]) (μ := μ) (F := lift fun x => fD (restF x)) (fiSeq_lst rfl) trivial (by rw [List.length_map]; omega) (fun z hz => by
      obtain ⟨x, hx, rfl⟩ := List.mem_map.mp hz
      rw [lift_fD]
      have hf := h x hx
      have hm := fraction_ok (a := x.1 / x.2) (b := 1) (q := 1) (by decide) (by decide) (by decide) μ
      rw [red_1] at hm
      simp only [wipeE, List.set, eA, aC, aN, eV, eC, Res.bind, List.getElem?_cons_succ, List.getElem?_cons_zero, floor_ok hf (by omega), hm]
      exact minus_ok hf (int_fr (floor_lt hf)) (by omega) (by omega) (by omega) μ)
    rw [map_lift] at this
    exact this
  refine run_rt ?_ (by
    show labs (ys.map fun x => fD (restF x)) ≤ _
    have := labs_fD (ys.map restF)
    rw [List.map_map] at this
    rw [show (ys.map fun w => fD (restF w)) = ys.map (fD ∘ restF) from rfl, this]
    exact Nat.zero_le _)
  simp [b_rests_of, sRet, Res.out, hc]
/-- the aims, and what is known of them -/
structure Aims (ys : List (Int × Int)) : Prop where
  fr : ∀ x ∈ ys, Fr 1086 566 x
  len : ys.length ≤ 12
theorem aims_of (g : GoodW d xs) (gy : GoodS y) : Aims (xs.map (aimF xs y)) :=
  ⟨fun x hx => by
    obtain ⟨w, hw, rfl⟩ := List.mem_map.mp hx
    exact aim_fr g gy hw, by rw [List.length_map]; exact g.len⟩
variable {ys : List (Int × Int)}
theorem Aims.rests (a : Aims ys) (μ : Sto) : m_rests_of [.lst (ys.map fD)] μ = .ok (.lst (ys.map fun x => fD (restF x))) μ := rests_ok a.fr a.len (by decide) (by decide) μ
theorem Aims.rest_fr (a : Aims ys) {x : Int × Int} (hx : x ∈ ys) : Fr 2740 567 (restF x) := Pk59.rest_fr (a.fr x hx)
def upF (ys : List (Int × Int)) : Int := (sumF (ys.map restF)).1 / (sumF (ys.map restF)).2
theorem Aims.sum_fr (a : Aims ys) : Fr 200000 6805 (sumF (ys.map restF)) := by
  have := Pk59.sum_fr (N := 12) (p := 2740) (q := 567) (xs := ys.map restF) (fun x hx => by
    obtain ⟨w, hw, rfl⟩ := List.mem_map.mp hx
    exact a.rest_fr hw) (by rw [List.length_map]; exact a.len)
  exact this.mono (by decide) (by decide)
theorem Aims.up_ok (a : Aims ys) (μ : Sto) : m_many_up [.lst (ys.map fD)] μ = .ok (.int (upF ys)) μ := by
  have h1 := a.rests μ
  have e : (ys.map fun x => fD (restF x)) = (ys.map restF).map fD := by rw [List.map_map]; rfl
  rw [e] at h1
  have h2 := sum_ok (N := 12) (p := 2740) (q := 567) (xs := ys.map restF) (fun x hx => by
    obtain ⟨w, hw, rfl⟩ := List.mem_map.mp hx
    exact a.rest_fr hw) (by rw [List.length_map]; exact a.len) (by decide) (by decide) (.inl rfl) μ
  have h3 := floor_ok a.sum_fr (by decide) μ
  refine run_rt ?_ (by simp [lab])
  simp only [b_many_up, sRet, eA, aC, aN, eV, Res.bind, Res.out]
  simp [h1, h2, h3, upF, -List.map_map]
theorem Aims.up_le (a : Aims ys) : 0 ≤ upF ys ∧ upF ys ≤ ys.length := by
  have hr : ∀ x ∈ ys.map restF, 0 < x.2 ∧ Le x 1 ∧ 0 ≤ x.1 := fun x hx => by
    obtain ⟨w, hw, rfl⟩ := List.mem_map.mp hx
    have p := (a.fr w hw).pos
    exact ⟨(Pk59.rest_fr (a.fr w hw)).pos, (rest_le p).1, (rest_le p).2⟩
  have h1 : Le (sumF (ys.map restF)) (0 + (ys.map restF).length * 1) := fold_le _ (0, 1) 0 (by decide) (by show (0 : Int) ≤ 0 * 1; decide) fun x hx => ⟨(hr x hx).1, (hr x hx).2.1⟩
  have h2 : 0 ≤ (sumF (ys.map restF)).1 := fold_nonneg _ (0, 1) (by decide) (by decide) fun x hx => ⟨(hr x hx).1, (hr x hx).2.2⟩
  have d0 := a.sum_fr.pos
  refine ⟨Int.ediv_nonneg h2 (Int.le_of_lt d0), ?_⟩
  have := floor_le d0 h1
  rw [List.length_map] at this
  unfold upF
  omega
end
end Pk59
end

section
set_option Elab.async false
set_option linter.all false
set_option autoImplicit false
set_option maxRecDepth 100000
set_option maxHeartbeats 1000000
set_option exponentiation.threshold 3000
namespace Pk59
open PySem DL
abbrev iL (l : List Int) : D := .lst (l.map .int)
theorem intsD_map : ∀ l : List Int, intsD (l.map .int) = some l
  | [] => rfl
  | x :: l => by simp [intsD, intsD_map l]
theorem ix_fr {rs : List (Int × Int)} {f : Int} (h0 : 0 ≤ f) (h1 : f < rs.length) (μ : Sto) : ∃ x ∈ rs, oIx (.lst (rs.map fD)) (.int f) μ = .ok (fD x) μ := by
  have hl : f.toNat < rs.length := by omega
  refine ⟨rs[f.toNat], List.getElem_mem hl, ?_⟩
  have e : (rs.map fD)[f.toNat]? = some (fD rs[f.toNat]) := by rw [List.getElem?_map, List.getElem?_eq_getElem hl]; rfl
  have := atI_nat e
  rw [show ((f.toNat : Nat) : Int) = f by omega] at this
  show (match L2.atI (rs.map fD) f with
    | some x => Res.ok x μ
    | none => .bad) = _
  rw [this]
section
variable {rs : List (Int × Int)} {p q : Nat}
theorem great_ok (hr : ∀ x ∈ rs, Fr p q x) (hb : p + q < 1000000) {n : Nat} {ls : List Int} {μ : Sto} (hm : μ[n]? = some (some (iL ls))) (hne : ls ≠ []) (hls : ∀ l ∈ ls, 0 ≤ l ∧ l < rs.length) : ∃ r, m_greatest_of [.lst (rs.map fD), .own n] μ = .ok (.int r) μ ∧ r ∈ ls := by
  obtain ⟨l0, lr, rfl⟩ := List.exists_cons_of_ne_nil hne
  obtain ⟨ρ', e1, f, o, e2, hf⟩ := for_pure (tg := gN 3) (g := sIf (tB (eA m_is_less (aC (e2 oIx (eV 0) (eV 2)) (aC (e2 oIx (eV 0) (eV 3)) aN)))) (sSet 2 (eV 3)) sNx) (μ := μ) (fun i ρ => ∃ f o, ρ = [some (.lst (rs.map fD)), some (.own n), some (.int f), o] ∧ f ∈ l0 :: lr) ((l0 :: lr).map .int) (some (n, iL (l0 :: lr))) hm [some (.lst (rs.map fD)), some (.own n), some (.int l0), none] ⟨l0, none, rfl, List.mem_cons_self⟩ (by
    rintro i x ρ hx ⟨f, o, rfl, hf⟩
    rw [List.getElem?_map] at hx
    cases z : (l0 :: lr)[i]? with
    | none => rw [z] at hx; cases hx
    | some k =>
      rw [z] at hx
      cases hx
      have hk := List.mem_of_getElem? z
      obtain ⟨x1, m1, h1⟩ := ix_fr (hls f hf).1 (hls f hf).2 μ
      obtain ⟨x2, m2, h2⟩ := ix_fr (hls k hk).1 (hls k hk).2 μ
      have hl := less_ok (hr x1 m1) (hr x2 m2) hb hb μ
      by_cases c : x1.1 * x2.2 < x2.1 * x1.2
      · refine ⟨_, [some (.lst (rs.map fD)), some (.own n), some (.int k), some (.int k)], rfl, ?_, k, _, rfl, hk⟩
        simp only [sIf, tB, eA, aC, aN, e2, eV, Res.bind, Res.out, List.set, List.getElem?_cons_succ, List.getElem?_cons_zero, h1, h2, hl]
        simp [c, sSet, eV, Res.out]
      · refine ⟨_, [some (.lst (rs.map fD)), some (.own n), some (.int f), some (.int k)], rfl, ?_, f, _, rfl, hf⟩
        simp only [sIf, tB, eA, aC, aN, e2, eV, Res.bind, Res.out, List.set, List.getElem?_cons_succ, List.getElem?_cons_zero, h1, h2, hl]
        simp [c, sNx])
  subst e2
  have hseq : fiSeq (eV 1) [some (.lst (rs.map fD)), some (.own n), some (.int l0), none] μ = .ok ((l0 :: lr).map .int, some (n, iL (l0 :: lr))) μ := by
    simp [fiSeq, eV, Res.bind, hm]
  have hfor : sFor (fiSeq (eV 1)) (gN 3) (sIf (tB (eA m_is_less (aC (e2 oIx (eV 0) (eV 2)) (aC (e2 oIx (eV 0) (eV 3)) aN)))) (sSet 2 (eV 3)) sNx) [some (.lst (rs.map fD)), some (.own n), some (.int l0), none] μ = .nx [some (.lst (rs.map fD)), some (.own n), some (.int f), o] μ := by
    unfold sFor
    rw [hseq]
    exact e1
  have h0 : oIx (.own n) (.int 0) μ = .ok (.int l0) μ := by
    simp [oIx, seqD, cOf, hm, L2.atI, L2.ixN]
  refine ⟨f, run_rt ?_ (by simp [lab]), hf⟩
  have hset : sSet 2 (e2 oIx (eV 1) (eC (.int 0))) ([D.lst (rs.map fD), .own n].map some ++ List.replicate (4 - [D.lst (rs.map fD), .own n].length) none) μ = .nx [some (.lst (rs.map fD)), some (.own n), some (.int l0), none] μ := by
    simp [sSet, e2, eV, eC, Res.bind, Res.out, h0]
  unfold b_greatest_of sSeq
  rw [hset]
  simp only
  rw [hfor]
  rfl
end
theorem set_app0 (μ : Sto) (a b x : Option D) : (μ ++ [a, b]).set μ.length x = μ ++ [x, b] := by
  rw [List.set_append_right _ _ (Nat.le_refl _), Nat.sub_self]
  rfl
theorem set_app1 (μ : Sto) (a b x : Option D) : (μ ++ [a, b]).set (μ.length + 1) x = μ ++ [a, x] := by
  rw [List.set_append_right _ _ (by omega)]
  simp
theorem get_app0 (μ : Sto) (a b : Option D) : (μ ++ [a, b])[μ.length]? = some a := by simp
theorem get_app1 (μ : Sto) (a b : Option D) : (μ ++ [a, b])[μ.length + 1]? = some b := by
  rw [List.getElem?_append_right (by omega)]
  simp
section
variable {ys : List (Int × Int)}
theorem Aims.places (a : Aims ys) (μ : Sto) : ∃ fs : List Int, m_places_up [.lst (ys.map fD)] μ = .ok (iL fs) μ := by
  have hup := a.up_le
  have hrs : ∀ x ∈ ys.map restF, Fr 2740 567 x := fun x hx => by
    obtain ⟨w, hw, rfl⟩ := List.mem_map.mp hx
    exact a.rest_fr hw
  have e0 : (ys.map fun x => fD (restF x)) = (ys.map restF).map fD := by rw [List.map_map]; rfl
  have body : ∀ (k : Int) (ls fs : List Int) (o4 o5 : Option D), ls ≠ [] → (∀ l ∈ ls, 0 ≤ l ∧ l < (ys.map restF).length) → fs.length ≤ 100 →
      ∃ r, r ∈ ls ∧ (sSeq (sSet 5 (eA m_greatest_of (aC (eV 1) (aC (eV 2) aN)))) (sSeq (sExpr (eBM "list" oRemI (eV 2) (aC (eV 5) aN))) (sExpr (eBM "list" oAppend (eV 3) (aC (eV 5) aN)))))
        [some (.lst (ys.map fD)), some (.lst ((ys.map restF).map fD)), some (.own μ.length), some (.own (μ.length + 1)), some (.int k), o5] (μ ++ [some (iL ls), some (iL fs)]) =
        .nx [some (.lst (ys.map fD)), some (.lst ((ys.map restF).map fD)), some (.own μ.length), some (.own (μ.length + 1)), some (.int k), some (.int r)] (μ ++ [some (iL (ls.erase r)), some (iL (fs ++ [r]))]) := by
    intro k ls fs o4 o5 hne hls hfs
    obtain ⟨r, h1, h2⟩ := great_ok hrs (by decide) (get_app0 μ (some (iL ls)) (some (iL fs))) hne hls
    refine ⟨r, h2, ?_⟩
    have q1 : oRemI (.own μ.length) [.int r] (μ ++ [some (iL ls), some (iL fs)]) = .ok .non (μ ++ [some (iL (ls.erase r)), some (iL fs)]) := by
      simp only [oRemI, lstOf, get_app0, intsD_map, if_pos h2, set_app0]
    have q2 : oAppend (.own (μ.length + 1)) [.int r] (μ ++ [some (iL (ls.erase r)), some (iL fs)]) = .ok .non (μ ++ [some (iL (ls.erase r)), some (iL (fs ++ [r]))]) := by
      simp only [oAppend, lstOf, get_app1]
      rw [if_pos (by rw [List.length_map]; omega), set_app1, show iL (fs ++ [r]) = .lst (fs.map .int ++ [.int r]) by simp [iL]]
    simp only [sSeq, sSet, eA, aC, aN, eV, Res.bind, Res.out, List.set, List.getElem?_cons_succ, List.getElem?_cons_zero, h1]
    simp only [sExpr, eBM, eV, aC, aN, Res.bind, Res.out, List.getElem?_cons_succ, List.getElem?_cons_zero, cOf, get_app0, tyB, decide_true, if_true, q1, get_app1, q2]
  obtain ⟨ρ', μ', e1, ls, fs, o4, o5, e2, e3, _⟩ := for_inv (tg := gN 4) (kp := none) (g := sSeq (sSet 5 (eA m_greatest_of (aC (eV 1) (aC (eV 2) aN)))) (sSeq (sExpr (eBM "list" oRemI (eV 2) (aC (eV 5) aN))) (sExpr (eBM "list" oAppend (eV 3) (aC (eV 5) aN)))))
    (fun i ρ m => ∃ (ls fs : List Int) (o4 o5 : Option D), ρ = [some (.lst (ys.map fD)), some (.lst ((ys.map restF).map fD)), some (.own μ.length), some (.own (μ.length + 1)), o4, o5] ∧ m = μ ++ [some (iL ls), some (iL fs)] ∧ ls.length + i = ys.length ∧ (∀ l ∈ ls, 0 ≤ l ∧ l < (ys.map restF).length) ∧ fs.length = i)
    (rngD 0 (upF ys).toNat) 0 [some (.lst (ys.map fD)), some (.lst ((ys.map restF).map fD)), some (.own μ.length), some (.own (μ.length + 1)), none, none] (μ ++ [some (iL ((List.range ys.length).map fun k : Nat => (k : Int))), some (iL [])])
    ⟨_, [], none, none, rfl, rfl, by simp, fun l hl => by
      obtain ⟨k, hk, rfl⟩ := List.mem_map.mp hl
      rw [List.mem_range] at hk
      rw [List.length_map]
      omega, rfl⟩ (by
    rintro i x ρ m hx ⟨ls, fs, o4, o5, rfl, rfl, h1, h2, h3⟩
    rw [Nat.zero_add] at h1 h3
    have hi : i < (upF ys).toNat := by
      have := (List.getElem?_eq_some_iff.mp hx).1
      simpa [rngD] using this
    have hx' : x = .int (i : Int) := by
      unfold rngD at hx
      rw [List.getElem?_map, List.getElem?_range hi] at hx
      simp at hx
      exact hx.symm
    subst hx'
    have hne : ls ≠ [] := fun z => by
      subst z
      simp at h1
      omega
    have hfs : fs.length ≤ 100 := by
      have := a.len
      omega
    obtain ⟨r, hr, hb⟩ := body (i : Int) ls fs o4 o5 hne h2 hfs
    refine ⟨_, _, _, rfl, hb, trivial, ls.erase r, fs ++ [r], _, _, rfl, rfl, ?_, fun l hl => h2 l (List.mem_of_mem_erase hl), ?_⟩
    · rw [List.length_erase_of_mem hr]
      have : 0 < ls.length := List.length_pos_of_mem hr
      omega
    · rw [List.length_append, h3]
      simp)
  subst e2 e3
  refine ⟨fs, ?_⟩
  have hlen : oLen [.lst (ys.map fD)] μ = .ok (.int (ys.length : Int)) μ := by
    rw [len_lst, List.length_map]
  have hrest := a.rests μ
  rw [e0] at hrest
  have s1 : sSet 1 (eA m_rests_of (aC (eV 0) aN)) ([D.lst (ys.map fD)].map some ++ List.replicate (6 - [D.lst (ys.map fD)].length) none) μ = .nx [some (.lst (ys.map fD)), some (.lst ((ys.map restF).map fD)), none, none, none, none] μ := by
    simp [sSet, eA, aC, aN, eV, Res.bind, Res.out, hrest, -List.map_map]
  have hl12 := a.len
  have s2 : sSet 2 (eOwn (eListRng (aC (eA oLen (aC (eV 0) aN)) aN))) [some (.lst (ys.map fD)), some (.lst ((ys.map restF).map fD)), none, none, none, none] μ = .nx [some (.lst (ys.map fD)), some (.lst ((ys.map restF).map fD)), some (.own μ.length), none, none, none] (μ ++ [some (iL ((List.range ys.length).map fun k : Nat => (k : Int)))]) := by
    have er : rngD 0 ys.length = ((List.range ys.length).map fun k : Nat => (k : Int)).map D.int := by
      unfold rngD
      rw [List.map_map]
      congr 1
      funext k
      simp
    simp only [sSet, eOwn, eListRng, eA, aC, aN, eV, Res.bind, Res.out, List.set, List.getElem?_cons_succ, List.getElem?_cons_zero, hlen]
    rw [if_pos (by omega), Int.toNat_natCast, er]
  have s3 : sSet 3 (eOwn (eA oLstN aN)) [some (.lst (ys.map fD)), some (.lst ((ys.map restF).map fD)), some (.own μ.length), none, none, none] (μ ++ [some (iL ((List.range ys.length).map fun k : Nat => (k : Int)))]) = .nx [some (.lst (ys.map fD)), some (.lst ((ys.map restF).map fD)), some (.own μ.length), some (.own (μ.length + 1)), none, none] (μ ++ [some (iL ((List.range ys.length).map fun k : Nat => (k : Int))), some (iL [])]) := by
    have e : oLstN [] (μ ++ [some (iL ((List.range ys.length).map fun k : Nat => (k : Int)))]) = .ok (.lst []) (μ ++ [some (iL ((List.range ys.length).map fun k : Nat => (k : Int)))]) := rfl
    simp only [sSet, eOwn, eA, aN, Res.bind, Res.out, List.set, e, List.length_append, List.length_cons, List.length_nil, List.append_assoc, List.cons_append, List.nil_append, iL, List.map_nil]
  have hrng : fiRng (aC (eA m_many_up (aC (eV 0) aN)) aN) [some (.lst (ys.map fD)), some (.lst ((ys.map restF).map fD)), some (.own μ.length), some (.own (μ.length + 1)), none, none] (μ ++ [some (iL ((List.range ys.length).map fun k : Nat => (k : Int))), some (iL [])]) = .ok (rngD 0 (upF ys).toNat, none) (μ ++ [some (iL ((List.range ys.length).map fun k : Nat => (k : Int))), some (iL [])]) := by
    simp only [fiRng, eA, aC, aN, eV, Res.bind, List.getElem?_cons_zero, a.up_ok]
    rw [if_pos (by omega)]
  have hfor : sFor (fiRng (aC (eA m_many_up (aC (eV 0) aN)) aN)) (gN 4) (sSeq (sSet 5 (eA m_greatest_of (aC (eV 1) (aC (eV 2) aN)))) (sSeq (sExpr (eBM "list" oRemI (eV 2) (aC (eV 5) aN))) (sExpr (eBM "list" oAppend (eV 3) (aC (eV 5) aN))))) [some (.lst (ys.map fD)), some (.lst ((ys.map restF).map fD)), some (.own μ.length), some (.own (μ.length + 1)), none, none] (μ ++ [some (iL ((List.range ys.length).map fun k : Nat => (k : Int))), some (iL [])]) = .nx [some (.lst (ys.map fD)), some (.lst ((ys.map restF).map fD)), some (.own μ.length), some (.own (μ.length + 1)), o4, o5] (μ ++ [some (iL ls), some (iL fs)]) := by
    unfold sFor
    rw [hrng]
    exact e1
  have hlab : lab (iL fs) ≤ μ.length := by
    show labs (fs.map D.int) ≤ _
    rw [labs_int (fun x => x) fs]
    exact Nat.zero_le _
  have fin := runF_rt (n := 6) (g := b_places_up) (ds := [.lst (ys.map fD)]) (μ := μ) (m := μ.length + 1) (μ' := μ ++ [some (iL ls), some (iL fs)]) (d := iL fs) (by
    unfold b_places_up
    rw [seq_nx s1, seq_nx s2, seq_nx s3, seq_nx hfor]
    rfl) (get_app1 _ _ _) hlab (by omega) (kept_app _ _)
  rw [take_app] at fin
  exact fin
end
end Pk59
end

section
set_option Elab.async false
set_option linter.all false
set_option autoImplicit false
set_option maxRecDepth 100000
set_option maxHeartbeats 1000000
set_option exponentiation.threshold 3000
namespace Pk59
open PySem DL
theorem apart_ok {x y : Int × Int} {p q p' q' : Nat} (hx : Fr p q x) (hy : Fr p' q' y) (h1 : p + q' < 1000000) (h2 : p' + q < 1000000) (h3 : q + q' < 9000) (μ : Sto) : ∃ z, m_apart [fD x, fD y] μ = .ok (fD z) μ ∧ Fr (p + q' + (p' + q) + 1) (q + q') z := by
  have hl := less_ok hx hy h1 h2 μ
  by_cases c : x.1 * y.2 < y.1 * x.2
  · refine ⟨minusF y x, run_rt ?_ (by simp [lab, labs]), (minus_fr hy hx).mono (by omega) (by omega)⟩
    simp [b_apart, sSeq, sIf, sRet, tB, eA, aC, aN, eV, Res.bind, Res.out, hl, c, minus_ok hy hx h2 h1 (by omega)]
  · refine ⟨minusF x y, run_rt ?_ (by simp [lab, labs]), minus_fr hx hy⟩
    simp [b_apart, sSeq, sIf, sNx, sRet, tB, eA, aC, aN, eV, Res.bind, Res.out, hl, c, minus_ok hx hy h1 h2 h3]
theorem frac1 {c : Int} (μ : Sto) : m_fraction [.int c, .int 1] μ = .ok (fD (c, 1)) μ := by
  have hm := fraction_ok (a := c) (b := 1) (q := 1) (by decide) (by decide) (by decide) μ
  rwa [red_1] at hm
section
variable {d s : D} {xs ys : List (Int × Int)} {y : Int × Int} {c : Str}
theorem worst_ex (h : ∀ μ, m_aims [d, s] μ = .ex ⟨c, none⟩ μ) (e : D) (μ : Sto) : m_worst_of [d, s, e] μ = .ex ⟨c, none⟩ μ := by
  refine run_ex (ρ := [some d, some s, some e, some (.tup [.int 0, .int 1]), none, none, none]) ?_
  simp [b_worst_of, sSeq, sSet, sFor, fiZip, eA, aC, aN, eV, eC, Res.bind, Res.out, h]
theorem rounded_ex (h : ∀ μ, m_aims [d, s] μ = .ex ⟨c, none⟩ μ) (μ : Sto) : m_rounded [d, s] μ = .ex ⟨c, none⟩ μ := by
  refine run_ex (ρ := [some d, some s, none, none, none, none, none, none]) ?_
  simp [b_rounded, sSeq, sSet, eA, aC, aN, eV, eC, Res.bind, Res.out, h]
theorem paper_ex (h : ∀ μ, m_aims [d, s] μ = .ex ⟨c, none⟩ μ) (e : D) (μ : Sto) : m_paper [d, s, e] μ = .ex ⟨c, none⟩ μ := by
  refine run_ex (ρ := [some d, some s, some e, none, none, none, none, none]) ?_
  simp [b_paper, sSeq, sSet, eA, aC, aN, eV, eC, Res.bind, Res.out, h]
theorem shows_ex (h : ∀ μ, m_aims [d, s] μ = .ex ⟨c, none⟩ μ) (e t : D) (μ : Sto) : m_shows [d, s, e, t] μ = .ex ⟨c, none⟩ μ := by
  refine run_ex (ρ := [some d, some s, some e, some t, none, none, none, none, none, none]) ?_
  simp [b_shows, sSeq, sSet, eA, aC, aN, eV, eC, Res.bind, Res.out, paper_ex h]
theorem worst_ok (a : Aims ys) (ha : ∀ μ, m_aims [d, s] μ = .ok (.lst (ys.map fD)) μ) {cs : List Int} (hc : ∀ c ∈ cs, c.natAbs < 2 ^ 1087) (μ : Sto) : ∃ f, m_worst_of [d, s, iL cs] μ = .ok (fD f) μ := by
  have bd : 1086 + 1 + (1087 + 566) + 1 = 2741 := rfl
  obtain ⟨ρ', e1, f, o4, o5, o6, e2, hf⟩ := for_pure (tg := gT [gN 4, gN 5]) (g := sSeq (sSet 6 (eA m_apart (aC (eV 4) (aC (eA m_fraction (aC (eV 5) (aC (eC (.int 1)) aN))) aN)))) (sIf (tB (eA m_is_less (aC (eV 3) (aC (eV 6) aN)))) (sSet 3 (eV 6)) sNx)) (μ := μ)
    (fun i ρ => ∃ f o4 o5 o6, ρ = [some d, some s, some (iL cs), some (fD f), o4, o5, o6] ∧ Fr 2741 567 f) (zipD (ys.map fD) (cs.map .int)) none trivial [some d, some s, some (iL cs), some (fD (0, 1)), none, none, none] ⟨(0, 1), none, none, none, rfl, fr_nought.mono (by decide) (by decide)⟩ (by
    rintro i x ρ hx ⟨f, o4, o5, o6, rfl, hf⟩
    unfold zipD at hx
    rw [List.getElem?_zipWith, List.getElem?_map, List.getElem?_map] at hx
    cases z1 : ys[i]? with
    | none => rw [z1] at hx; cases hx
    | some a1 =>
      cases z2 : cs[i]? with
      | none => rw [z1, z2] at hx; cases hx
      | some c1 =>
        rw [z1, z2] at hx
        cases hx
        have h1 := a.fr a1 (List.mem_of_getElem? z1)
        have h2 := int_fr (hc c1 (List.mem_of_getElem? z2))
        obtain ⟨z, hz, fz⟩ := apart_ok h1 h2 (by decide) (by decide) (by decide) μ
        have fz' : Fr 2741 567 z := fz.mono (by decide) (by decide)
        have hl := less_ok hf fz' (by decide) (by decide) μ
        have t : gT [gN 4, gN 5] (.tup [fD a1, .int c1]) [some d, some s, some (iL cs), some (fD f), o4, o5, o6] μ = some [some d, some s, some (iL cs), some (fD f), some (fD a1), some (.int c1), o6] := rfl
        have e6 : sSet 6 (eA m_apart (aC (eV 4) (aC (eA m_fraction (aC (eV 5) (aC (eC (.int 1)) aN))) aN))) [some d, some s, some (iL cs), some (fD f), some (fD a1), some (.int c1), o6] μ = .nx [some d, some s, some (iL cs), some (fD f), some (fD a1), some (.int c1), some (fD z)] μ := by
          simp only [sSet, eA, aC, aN, eV, eC, Res.bind, Res.out, List.set, List.getElem?_cons_succ, List.getElem?_cons_zero, frac1, hz]
        by_cases k : f.1 * z.2 < z.1 * f.2
        · refine ⟨_, [some d, some s, some (iL cs), some (fD z), some (fD a1), some (.int c1), some (fD z)], t, ?_, z, _, _, _, rfl, fz'⟩
          rw [seq_nx e6]
          simp only [sIf, tB, eA, aC, aN, eV, Res.bind, Res.out, List.getElem?_cons_succ, List.getElem?_cons_zero, hl]
          simp [k, sSet, eV, Res.out]
        · refine ⟨_, [some d, some s, some (iL cs), some (fD f), some (fD a1), some (.int c1), some (fD z)], t, ?_, f, _, _, _, rfl, hf⟩
          rw [seq_nx e6]
          simp only [sIf, tB, eA, aC, aN, eV, Res.bind, Res.out, List.getElem?_cons_succ, List.getElem?_cons_zero, hl]
          simp [k, sNx])
  subst e2
  have hz : fiZip (aC (eA m_aims (aC (eV 0) (aC (eV 1) aN))) (aC (eV 2) aN)) [some d, some s, some (iL cs), some (fD (0, 1)), none, none, none] μ = .ok (zipD (ys.map fD) (cs.map .int), none) μ := by
    simp only [fiZip, eA, aC, aN, eV, Res.bind, List.getElem?_cons_succ, List.getElem?_cons_zero, ha, lsOf]
  refine ⟨f, run_rt ?_ (by simp [lab, labs])⟩
  have s1 : sSet 3 (eC (.tup [.int 0, .int 1])) ([d, s, iL cs].map some ++ List.replicate (7 - [d, s, iL cs].length) none) μ = .nx [some d, some s, some (iL cs), some (fD (0, 1)), none, none, none] μ := rfl
  unfold b_worst_of
  rw [seq_nx s1, seq_nx ((for_eq hz).trans e1)]
  rfl
theorem ints_of {α : Type} {F : α → D} {P : Int → Prop} : ∀ {l : List α}, (∀ q ∈ l, ∃ c, F q = .int c ∧ P c) → ∃ cs : List Int, l.map F = cs.map .int ∧ (∀ c ∈ cs, P c) ∧ cs.length = l.length
  | [], _ => ⟨[], rfl, fun _ h => (nomatch h), rfl⟩
  | q :: l, h => by
    obtain ⟨c, e, p⟩ := h q List.mem_cons_self
    obtain ⟨cs, e2, p2, l2⟩ := ints_of (l := l) fun x hx => h x (List.mem_cons_of_mem _ hx)
    refine ⟨c :: cs, by rw [List.map_cons, List.map_cons, e, e2], fun x hx => ?_, by simp [l2]⟩
    rcases List.mem_cons.mp hx with rfl | hx
    · exact p
    · exact p2 x hx
/-- enumerate's pairs -/
def prs (l : List D) : List (D × D) := l.zipIdx.map fun p => (D.int (p.2 : Nat), p.1)
theorem enum_prs (l : List D) : enumD l = (prs l).map fun q => D.tup [q.1, q.2] := by
  unfold enumD prs
  rw [List.map_map]
  rfl
theorem prs_mem {l : List D} {q : D × D} (h : q ∈ prs l) : ∃ (i : Nat) (x : D), q = (.int i, x) ∧ x ∈ l := by
  unfold prs at h
  obtain ⟨p, hp, rfl⟩ := List.mem_map.mp h
  obtain ⟨x, i⟩ := p
  exact ⟨i, x, rfl, List.fst_mem_of_mem_zipIdx hp⟩
theorem prs_len (l : List D) : (prs l).length = l.length := by simp [prs]
theorem sum_lt {k : Nat} : ∀ {cs : List Int}, (∀ c ∈ cs, c.natAbs < 2 ^ k) → cs.sum.natAbs ≤ cs.length * 2 ^ k
  | [], _ => by simp
  | c :: cs, h => by
    have h1 := h c List.mem_cons_self
    have h2 := sum_lt (k := k) (cs := cs) fun x hx => h x (List.mem_cons_of_mem _ hx)
    rw [List.sum_cons, List.length_cons, Nat.succ_mul]
    have := Int.natAbs_add_le c cs.sum
    omega
theorem flat_ints : ∀ l : List Int, (l.map D.int).all flatD = true
  | [] => rfl
  | x :: l => by simp [flatD, flat_ints l]
theorem rounded_ok (a : Aims ys) (g : GoodW d xs) (gy : GoodS y) (ha : ∀ μ, m_aims [d, fD y] μ = .ok (.lst (ys.map fD)) μ) (μ : Sto) : ∃ r, m_rounded [d, fD y] μ = .ok r μ := by
  obtain ⟨fs, hp⟩ := a.places μ
  have hen : fiEnum (aC (eV 2) aN) [some d, some (fD y), some (.lst (ys.map fD)), some (iL fs), none, none, none, none] μ = .ok ((prs (ys.map fD)).map fun q => .tup [q.1, q.2], none) μ := by
    simp only [fiEnum, aC, aN, eV, Res.bind, List.getElem?_cons_succ, List.getElem?_cons_zero, lsOf, enum_prs]
  have hcomp := lc2 (fi := fiEnum (aC (eV 2) aN)) (i := 5) (j := 6) (tt := tTrue) (te := e2 oAdd (eA m_floor_of (aC (eV 6) aN)) (eA oInt (aC (e2 (oIn false) (eV 5) (eV 3)) aN))) (p := fun _ => true)
    (F := fun q => match q.1, q.2 with
      | .int i, .tup [.int u, .int v] => .int (u / v + if inF (.int i) (fs.map .int) then 1 else 0)
      | _, _ => .non) hen trivial (by rw [prs_len, List.length_map]; have := a.len; omega) (fun q hq => by
      obtain ⟨i, x, rfl, hx⟩ := prs_mem hq
      obtain ⟨w, hw, rfl⟩ := List.mem_map.mp hx
      refine ⟨rfl, fun _ => ?_⟩
      have h1 := floor_ok (a.fr w hw) (by decide) μ
      have h2 : oIn false (.int (i : Int)) (iL fs) μ = .ok (.bl (inF (.int (i : Int)) (fs.map .int))) μ := by
        simp [oIn, seqD, cOf, flatD, flat_ints]
      simp only [wipeE, List.set, e2, eA, aC, aN, eV, Res.bind, List.getElem?_cons_succ, List.getElem?_cons_zero, h1, h2, oInt, add_ok])
  obtain ⟨cs, hcs, hb, hl⟩ := ints_of (l := (prs (ys.map fD)).filter fun _ => true) (P := fun c => c.natAbs < 2 ^ 1087) (F := fun q : D × D => match q.1, q.2 with
      | .int i, .tup [.int u, .int v] => D.int (u / v + if inF (.int i) (fs.map .int) then 1 else 0)
      | _, _ => .non) (fun q hq => by
      obtain ⟨i, x, rfl, hx⟩ := prs_mem (List.mem_filter.mp hq).1
      obtain ⟨w, hw, rfl⟩ := List.mem_map.mp hx
      refine ⟨_, rfl, ?_⟩
      have h1 := floor_lt (a.fr w hw)
      have e : 2 ^ 1087 = 2 ^ 1086 + 2 ^ 1086 := by rw [Nat.pow_succ]
      have p1 : 0 < 2 ^ 1086 := Nat.pow_pos (by omega)
      have h3 := Int.natAbs_add_le (w.1 / w.2) (if inF (.int (i : Int)) (fs.map .int) then 1 else 0)
      have h4 : ((if inF (.int (i : Int)) (fs.map .int) then 1 else 0 : Int)).natAbs ≤ 1 := by split <;> simp
      omega)
  rw [hcs] at hcomp
  have hlen : cs.length ≤ 16 := by
    have := List.length_filter_le (fun _ => true) (prs (ys.map fD))
    rw [prs_len, List.length_map] at this
    have := a.len
    omega
  have hsum : oSum [iL cs] μ = .ok (.int cs.sum) μ := by simp [oSum, cOf, intsD_map]
  have hsb : cs.sum.natAbs < 2 ^ 1092 := by
    have h1 := sum_lt hb
    have h2 : cs.length * 2 ^ 1087 ≤ 16 * 2 ^ 1087 := Nat.mul_le_mul_right _ hlen
    have e : 2 ^ 1092 = 2 ^ 5 * 2 ^ 1087 := by rw [← Nat.pow_add]
    have p1 : 0 < 2 ^ 1087 := Nat.pow_pos (by omega)
    omega
  have ht := times_ok gy.fr (int_fr hsb) (by decide) (by decide) μ
  have hm := minus_ok g.tot.1 (times_fr gy.fr (int_fr hsb)) (by decide) (by decide) (by decide) μ
  obtain ⟨f, hw⟩ := worst_ok (s := fD y) a ha hb μ
  have s1 : sSet 2 (eA m_aims (aC (eV 0) (aC (eV 1) aN))) ([d, fD y].map some ++ List.replicate (8 - [d, fD y].length) none) μ = .nx [some d, some (fD y), some (.lst (ys.map fD)), none, none, none, none, none] μ := by
    simp [sSet, eA, aC, aN, eV, Res.bind, Res.out, ha]
  have s2 : sSet 3 (eA m_places_up (aC (eV 2) aN)) [some d, some (fD y), some (.lst (ys.map fD)), none, none, none, none, none] μ = .nx [some d, some (fD y), some (.lst (ys.map fD)), some (iL fs), none, none, none, none] μ := by
    simp only [sSet, eA, aC, aN, eV, Res.bind, Res.out, List.set, List.getElem?_cons_succ, List.getElem?_cons_zero, hp]
  have s3 : sSet 4 (eLc (fiEnum (aC (eV 2) aN)) (gT [(gN 5), (gN 6)]) [5, 6] tTrue (e2 oAdd (eA m_floor_of (aC (eV 6) aN)) (eA oInt (aC (e2 (oIn false) (eV 5) (eV 3)) aN)))) [some d, some (fD y), some (.lst (ys.map fD)), some (iL fs), none, none, none, none] μ = .nx [some d, some (fD y), some (.lst (ys.map fD)), some (iL fs), some (iL cs), none, none, none] μ := by
    unfold sSet
    rw [hcomp]
    rfl
  have s4 : sSet 7 (eA m_minus (aC (eA m_sum_of (aC (eV 0) aN)) (aC (eA m_times (aC (eV 1) (aC (eA m_fraction (aC (eA oSum (aC (eV 4) aN)) (aC (eC (.int 1)) aN))) aN))) aN))) [some d, some (fD y), some (.lst (ys.map fD)), some (iL fs), some (iL cs), none, none, none] μ = .nx [some d, some (fD y), some (.lst (ys.map fD)), some (iL fs), some (iL cs), none, none, some (fD (minusF (sumF xs) (timesF y (cs.sum, 1))))] μ := by
    simp only [sSet, eA, aC, aN, eV, eC, Res.bind, Res.out, List.set, List.getElem?_cons_succ, List.getElem?_cons_zero, g.sum, hsum, frac1, ht, hm]
  refine ⟨.tup [iL cs, fD (minusF (sumF xs) (timesF y (cs.sum, 1))), fD f], run_rt ?_ ?_⟩
  · unfold b_rounded
    rw [seq_nx s1, seq_nx s2, seq_nx s3, seq_nx s4]
    simp only [sRet, eA, aC, aN, eV, Res.bind, Res.out, List.getElem?_cons_succ, List.getElem?_cons_zero, hw]
    rfl
  · show max (labs (cs.map D.int)) _ ≤ _
    rw [labs_int (fun x => x) cs]
    exact Nat.zero_le _
/-- what paper answers, and that shows comes to an end -/
theorem paper_ok (a : Aims ys) (ha : ∀ μ, m_aims [d, s] μ = .ok (.lst (ys.map fD)) μ) (μ : Sto) : ∃ us ds : List Int, m_paper [d, s, fD (1, 2)] μ = .ok (.tup [iL us, iL ds]) μ := by
  have hr := a.rests μ
  have e0 : (ys.map fun x => fD (restF x)) = (ys.map restF).map fD := by rw [List.map_map]; rfl
  rw [e0] at hr
  have hb : Fr 1 2 ((1, 2) : Int × Int) := ⟨by decide, by decide, by decide⟩
  have h11 : Fr 1 1 ((1, 1) : Int × Int) := ⟨by decide, by decide, by decide⟩
  have hlen : (prs ((ys.map restF).map fD)).length ≤ 16777216 := by
    rw [prs_len, List.length_map, List.length_map]
    have := a.len
    omega
  have mem : ∀ q ∈ prs ((ys.map restF).map fD), ∃ (i : Nat) (w : Int × Int), q = (.int i, fD w) ∧ Fr 2740 567 w := fun q hq => by
    obtain ⟨i, x, rfl, hx⟩ := prs_mem hq
    obtain ⟨w, hw, rfl⟩ := List.mem_map.mp hx
    obtain ⟨v, hv, rfl⟩ := List.mem_map.mp hw
    exact ⟨i, restF v, rfl, a.rest_fr hv⟩
  have hen1 : fiEnum (aC (eV 3) aN) [some d, some s, some (fD (1, 2)), some (.lst ((ys.map restF).map fD)), none, none, none, none] μ = .ok ((prs ((ys.map restF).map fD)).map fun q => .tup [q.1, q.2], none) μ := by
    simp only [fiEnum, aC, aN, eV, Res.bind, List.getElem?_cons_succ, List.getElem?_cons_zero, lsOf, enum_prs]
  have hc1 := lc2 (fi := fiEnum (aC (eV 3) aN)) (i := 5) (j := 6) (tt := tNot (tB (eA m_is_less (aC (eV 6) (aC (eV 2) aN))))) (te := eV 5) (p := fun q => match q.2 with
      | .tup [.int u, .int v] => !decide (u * 2 < 1 * v)
      | _ => false) (F := fun q => q.1) hen1 trivial hlen (fun q hq => by
    obtain ⟨i, w, rfl, hw⟩ := mem q hq
    refine ⟨?_, fun _ => rfl⟩
    have hl := less_ok hw hb (by decide) (by decide) μ
    simp only [wipeE, List.set, tNot, tB, eA, aC, aN, eV, Res.bind, List.getElem?_cons_succ, List.getElem?_cons_zero, hl])
  obtain ⟨us, hus, _, _⟩ := ints_of (P := fun _ => True) (F := fun q : D × D => q.1) (l := (prs ((ys.map restF).map fD)).filter fun q => match q.2 with
      | .tup [.int u, .int v] => !decide (u * 2 < 1 * v)
      | _ => false) (fun q hq => by
    obtain ⟨i, w, rfl, hw⟩ := mem q (List.mem_filter.mp hq).1
    exact ⟨_, rfl, trivial⟩)
  rw [hus] at hc1
  have hen2 : fiEnum (aC (eV 3) aN) [some d, some s, some (fD (1, 2)), some (.lst ((ys.map restF).map fD)), some (iL us), none, none, none] μ = .ok ((prs ((ys.map restF).map fD)).map fun q => .tup [q.1, q.2], none) μ := by
    simp only [fiEnum, aC, aN, eV, Res.bind, List.getElem?_cons_succ, List.getElem?_cons_zero, lsOf, enum_prs]
  have hc2 := lc2 (fi := fiEnum (aC (eV 3) aN)) (i := 5) (j := 6) (tt := tNot (tB (eA m_is_less (aC (eA m_minus (aC (eC (.tup [.int 1, .int 1])) (aC (eV 6) aN))) (aC (eV 2) aN))))) (te := eV 5) (p := fun q => match q.2 with
      | .tup [.int u, .int v] => !decide ((minusF (1, 1) (u, v)).1 * 2 < 1 * (minusF (1, 1) (u, v)).2)
      | _ => false) (F := fun q => q.1) hen2 trivial hlen (fun q hq => by
    obtain ⟨i, w, rfl, hw⟩ := mem q hq
    refine ⟨?_, fun _ => rfl⟩
    have hm : m_minus [.tup [.int 1, .int 1], fD w] μ = .ok (fD (minusF (1, 1) w)) μ := minus_ok h11 hw (by decide) (by decide) (by decide) μ
    have hl := less_ok (minus_fr h11 hw) hb (by decide) (by decide) μ
    simp only [wipeE, List.set, tNot, tB, eA, aC, aN, eV, eC, Res.bind, List.getElem?_cons_succ, List.getElem?_cons_zero, hm, hl])
  obtain ⟨ds, hds, _, _⟩ := ints_of (P := fun _ => True) (F := fun q : D × D => q.1) (l := (prs ((ys.map restF).map fD)).filter fun q => match q.2 with
      | .tup [.int u, .int v] => !decide ((minusF (1, 1) (u, v)).1 * 2 < 1 * (minusF (1, 1) (u, v)).2)
      | _ => false) (fun q hq => by
    obtain ⟨i, w, rfl, hw⟩ := mem q (List.mem_filter.mp hq).1
    exact ⟨_, rfl, trivial⟩)
  rw [hds] at hc2
  have s1 : sSet 3 (eA m_rests_of (aC (eA m_aims (aC (eV 0) (aC (eV 1) aN))) aN)) ([d, s, fD (1, 2)].map some ++ List.replicate (8 - [d, s, fD (1, 2)].length) none) μ = .nx [some d, some s, some (fD (1, 2)), some (.lst ((ys.map restF).map fD)), none, none, none, none] μ := by
    simp [sSet, eA, aC, aN, eV, Res.bind, Res.out, ha, hr, -List.map_map]
  have s2 : sSet 4 (eLc (fiEnum (aC (eV 3) aN)) (gT [(gN 5), (gN 6)]) [5, 6] (tNot (tB (eA m_is_less (aC (eV 6) (aC (eV 2) aN))))) (eV 5)) [some d, some s, some (fD (1, 2)), some (.lst ((ys.map restF).map fD)), none, none, none, none] μ = .nx [some d, some s, some (fD (1, 2)), some (.lst ((ys.map restF).map fD)), some (iL us), none, none, none] μ := by
    unfold sSet
    rw [hc1]
    rfl
  have s3 : sSet 7 (eLc (fiEnum (aC (eV 3) aN)) (gT [(gN 5), (gN 6)]) [5, 6] (tNot (tB (eA m_is_less (aC (eA m_minus (aC (eC (.tup [.int 1, .int 1])) (aC (eV 6) aN))) (aC (eV 2) aN))))) (eV 5)) [some d, some s, some (fD (1, 2)), some (.lst ((ys.map restF).map fD)), some (iL us), none, none, none] μ = .nx [some d, some s, some (fD (1, 2)), some (.lst ((ys.map restF).map fD)), some (iL us), none, none, some (iL ds)] μ := by
    unfold sSet
    rw [hc2]
    rfl
  refine ⟨us, ds, run_rt ?_ ?_⟩
  · unfold b_paper
    rw [seq_nx s1, seq_nx s2, seq_nx s3]
    rfl
  · show max (labs (us.map D.int)) (max (labs (ds.map D.int)) 0) ≤ _
    rw [labs_int (fun x => x) us, labs_int (fun x => x) ds]
    exact Nat.zero_le _
theorem toPys_ints : ∀ l : List Int, toPys (l.map D.int) = some (l.map PyData.int)
  | [] => rfl
  | x :: l => by
    rw [List.map_cons, List.map_cons]
    unfold toPys
    rw [toPys_ints l]
    rfl
theorem lay_ints : ∀ l : List Int, PyData.canLayAll0 (l.map PyData.int) = true ∧ PyData.depthAll (l.map PyData.int) = 0
  | [] => ⟨rfl, rfl⟩
  | x :: l => by
    obtain ⟨h1, h2⟩ := lay_ints l
    rw [List.map_cons]
    unfold PyData.canLayAll0 PyData.depthAll
    rw [h1, h2]
    exact ⟨rfl, rfl⟩
theorem eqv_nil (l : List Int) : PyData.eqvAll [] (l.map PyData.int) = l.isEmpty := by
  cases l <;> rfl
theorem ne_own (us ds : List Int) (μ : Sto) : oEq true (.tup [.lst [], .lst []]) (.tup [iL us, iL ds]) μ = .ok (.bl (!(us.isEmpty && ds.isEmpty))) μ := by
  have h1 : toPy (.tup [.lst [], .lst []]) = some (.tuple [.list [], .list []]) := rfl
  have h2 : toPy (.tup [iL us, iL ds]) = some (.tuple [.list (us.map .int), .list (ds.map .int)]) := by
    simp [toPy, toPys, toPys_ints]
  have h3 : SeqAt.shaped (.tuple [.list [], .list []]) = true := rfl
  have h4 : SeqAt.shaped (.tuple [.list (us.map .int), .list (ds.map .int)]) = true := by
    simp [SeqAt.shaped, PyData.canLay0, PyData.canLayAll0, PyData.depth, PyData.depthAll, (lay_ints us).1, (lay_ints us).2, (lay_ints ds).1, (lay_ints ds).2]
  have h5 : PyData.eqv (.tuple [.list [], .list []]) (.tuple [.list (us.map .int), .list (ds.map .int)]) = (us.isEmpty && ds.isEmpty) := by
    simp [PyData.eqv, PyData.eqvAll, eqv_nil]
  simp only [oEq, strE, cOf, h1, h2, h3, h4, h5]
  rfl
theorem shows_ok (a : Aims ys) (g : GoodW d xs) (ha : ∀ μ, m_aims [d, s] μ = .ok (.lst (ys.map fD)) μ) (μ : Sto) : ∃ b, m_shows [d, s, fD (1, 2), .tup [.lst [], .lst []]] μ = .ok (.bl b) μ := by
  obtain ⟨us, ds, hp⟩ := paper_ok a ha μ
  have hpl : m_are_places [.lst []] μ = .ok (.bl true) μ := by
    refine run_rt ?_ (by simp [lab])
    have hc : eLc (fiSeq (eV 0)) (gN 1) [1] tTrue (eAnd (eA (oIs noK) (aC (eV 1) (aC (eC (.ty "int")) aN))) (e1 oNot (eA (oIs noK) (aC (eV 1) (aC (eC (.ty "bool")) aN))))) [some (.lst []), none] μ = .ok (.lst []) μ := by
      simp [eLc, fiSeq, eV, Res.bind, lcL]
    have hi : oIs noK [.lst [], .ty "list"] μ = .ok (.bl true) μ := by simp [oIs, tyD, cOf, kind1, ke6]
    have ha0 : oAll false [.lst []] μ = .ok (.bl true) μ := rfl
    simp [b_are_places, sRet, eAnd, eA, aC, aN, eC, Res.bind, Res.out]
    simp [eV, hi, hc, ha0]
  have s1 : sSet 4 (eA m_paper (aC (eV 0) (aC (eV 1) (aC (eV 2) aN)))) ([d, s, fD (1, 2), .tup [.lst [], .lst []]].map some ++ List.replicate (10 - [d, s, fD (1, 2), D.tup [.lst [], .lst []]].length) none) μ = .nx [some d, some s, some (fD (1, 2)), some (.tup [.lst [], .lst []]), some (.tup [iL us, iL ds]), none, none, none, none, none] μ := by
    simp [sSet, eA, aC, aN, eV, Res.bind, Res.out, hp]
  have hc2 : eLc (fiSeq (eV 3)) (gN 5) [5] tTrue (eA m_are_places (aC (eV 5) aN)) [some d, some s, some (fD (1, 2)), some (.tup [.lst [], .lst []]), some (.tup [iL us, iL ds]), none, none, none, none, none] μ = .ok (.lst [.bl true, .bl true]) μ := by
    have := lc1 (fi := fiSeq (eV 3)) (i := 5) (te := eA m_are_places (aC (eV 5) aN)) (ρ := [some d, some s, some (fD (1, 2)), some (.tup [.lst [], .lst []]), some (.tup [iL us, iL ds]), none, none, none, none, none]) (μ := μ) (ds := [.lst [], .lst []]) (kp := none) (F := fun _ => .bl true) (fiSeq_tup rfl) trivial (by decide) (fun x hx => by
      have e : x = .lst [] := by simpa using hx
      subst e
      simp only [wipeE, List.set, eA, aC, aN, eV, Res.bind, List.getElem?_cons_succ, List.getElem?_cons_zero, hpl])
    exact this
  have hl2 : oLen [.tup [.lst [], .lst []]] μ = .ok (.int 2) μ := rfl
  have s2 : sIf (tOr (tNot (tB (eA (oIs noK) (aC (eV 3) (aC (eC (.ty "tuple")) aN))))) (tOr (tB (e2 (oEq true) (eA oLen (aC (eV 3) aN)) (eC (.int 2)))) (tNot (tB (eA (oAll false) (aC (eLc (fiSeq (eV 3)) (gN 5) [5] tTrue (eA m_are_places (aC (eV 5) aN))) aN)))))) (sRet (eC (.bl false))) sNx [some d, some s, some (fD (1, 2)), some (.tup [.lst [], .lst []]), some (.tup [iL us, iL ds]), none, none, none, none, none] μ = .nx [some d, some s, some (fD (1, 2)), some (.tup [.lst [], .lst []]), some (.tup [iL us, iL ds]), none, none, none, none, none] μ := by
    have hi : oIs noK [.tup [.lst [], .lst []], .ty "tuple"] μ = .ok (.bl true) μ := by simp [oIs, tyD, cOf, kind1, kd5]
    simp [sIf, sNx, tOr, tNot, tB, e2, eA, aC, aN, eC, Res.bind, Res.out]
    simp [eV, hi, hl2, ne_int, hc2, all_tt]
  cases z : us.isEmpty && ds.isEmpty with
  | false =>
    refine ⟨false, run_rt ?_ (by simp [lab])⟩
    have hn := ne_own us ds μ
    rw [z] at hn
    have s3 : sIf (tB (e2 (oEq true) (eV 3) (eV 4))) (sRet (eC (.bl false))) sNx [some d, some s, some (fD (1, 2)), some (.tup [.lst [], .lst []]), some (.tup [iL us, iL ds]), none, none, none, none, none] μ = .rt (.bl false) μ := by
      simp only [sIf, tB, e2, eV, Res.bind, Res.out, List.getElem?_cons_succ, List.getElem?_cons_zero, hn]
      rfl
    unfold b_shows
    rw [seq_nx s1, seq_nx s2, seq_rt s3]
  | true =>
    rw [Bool.and_eq_true] at z
    have eu : us = [] := by simpa using z.1
    have ed : ds = [] := by simpa using z.2
    subst eu ed
    have hn := ne_own [] [] μ
    have s3 : sIf (tB (e2 (oEq true) (eV 3) (eV 4))) (sRet (eC (.bl false))) sNx [some d, some s, some (fD (1, 2)), some (.tup [.lst [], .lst []]), some (.tup [iL [], iL []]), none, none, none, none, none] μ = .nx [some d, some s, some (fD (1, 2)), some (.tup [.lst [], .lst []]), some (.tup [iL [], iL []]), none, none, none, none, none] μ := by
      simp only [sIf, tB, e2, eV, Res.bind, Res.out, List.getElem?_cons_succ, List.getElem?_cons_zero, hn]
      rfl
    have s4 : sAsg (eV 4) (aT 2 (asC (aN' 6) (asC (aN' 7) asN))) [some d, some s, some (fD (1, 2)), some (.tup [.lst [], .lst []]), some (.tup [iL [], iL []]), none, none, none, none, none] μ = .nx [some d, some s, some (fD (1, 2)), some (.tup [.lst [], .lst []]), some (.tup [iL [], iL []]), none, some (iL []), some (iL []), none, none] μ := rfl
    have s5 : sSet 8 (eA m_many_up (aC (eA m_aims (aC (eV 0) (aC (eV 1) aN))) aN)) [some d, some s, some (fD (1, 2)), some (.tup [.lst [], .lst []]), some (.tup [iL [], iL []]), none, some (iL []), some (iL []), none, none] μ = .nx [some d, some s, some (fD (1, 2)), some (.tup [.lst [], .lst []]), some (.tup [iL [], iL []]), none, some (iL []), some (iL []), some (.int (upF ys)), none] μ := by
      simp only [sSet, eA, aC, aN, eV, Res.bind, Res.out, List.set, List.getElem?_cons_succ, List.getElem?_cons_zero, ha, a.up_ok]
    have hln : ∃ n : Nat, oLen [d] μ = .ok (.int (n : Int)) μ := by
      rcases g.it with e | e <;> subst e
      · exact ⟨_, len_lst _ μ⟩
      · exact ⟨_, len_tup _ μ⟩
    obtain ⟨n, hln⟩ := hln
    have hc3 : eLc (fiSeq (eV 6)) (gN 9) [9] tTrue (e2 (oIn false) (eV 9) (eV 7)) [some d, some s, some (fD (1, 2)), some (.tup [.lst [], .lst []]), some (.tup [iL [], iL []]), none, some (iL []), some (iL []), some (.int (upF ys)), none] μ = .ok (.lst []) μ := by
      simp [eLc, fiSeq, eV, Res.bind, lcL]
    have ha0 : oAll true [.lst []] μ = .ok (.bl false) μ := rfl
    have hl0 : oLen [.lst []] μ = .ok (.int 0) μ := rfl
    have hfin : ∃ b, eOr (eA (oAll true) (aC (eLc (fiSeq (eV 6)) (gN 9) [9] tTrue (e2 (oIn false) (eV 9) (eV 7))) aN)) (eOr (e2 oGt (eA oLen (aC (eV 6) aN)) (eV 8)) (e2 oLt (e2 oSub (eA oLen (aC (eV 0) aN)) (eA oLen (aC (eV 7) aN))) (eV 8))) [some d, some s, some (fD (1, 2)), some (.tup [.lst [], .lst []]), some (.tup [iL [], iL []]), none, some (iL []), some (iL []), some (.int (upF ys)), none] μ = .ok (.bl b) μ := by
      simp only [eOr, e2, eA, aC, aN, Res.bind, hc3, ha0]
      simp only [eV, Res.bind, List.getElem?_cons_succ, List.getElem?_cons_zero, iL, List.map_nil, hl0, hln, gt_ok, sub_ok, lt_ok]
      by_cases k : upF ys < 0
      · exact ⟨true, by simp [k]⟩
      · exact ⟨decide ((n : Int) < upF ys), by simp [k]⟩
    obtain ⟨b, hfin⟩ := hfin
    refine ⟨b, run_rt ?_ (by simp [lab])⟩
    unfold b_shows
    rw [seq_nx s1, seq_nx s2, seq_nx s3, seq_nx s4, seq_nx s5]
    unfold sRet
    rw [hfin]
    rfl
end
end Pk59
end

section
set_option Elab.async false
set_option linter.all false
set_option autoImplicit false
set_option maxRecDepth 100000
set_option maxHeartbeats 1000000
set_option exponentiation.threshold 3000
namespace Pk59
open PySem DL
/-! what is due, what is told -/
theorem wt_shape {x : D} (h : wt x = true) (hs : sm x = true) : ∃ y, x = fD y ∧ GoodS y := by
  unfold wt at h
  split at h
  · rename_i a b
    simp only [Bool.and_eq_true, decide_eq_true_eq] at h
    simp only [sm, Bool.and_eq_true, decide_eq_true_eq] at hs
    exact ⟨(a, b), rfl, ⟨hs.1, h.1, hs.2⟩, h.2.2⟩
  · cases h
theorem wts_shape : ∀ {l : List D}, (∀ x ∈ l, wt x = true ∧ sm x = true) → ∃ xs : List (Int × Int), l = xs.map fD ∧ ∀ x ∈ xs, GoodS x
  | [], _ => ⟨[], rfl, fun _ h => (nomatch h)⟩
  | x :: l, h => by
    obtain ⟨y, rfl, gy⟩ := wt_shape (h x List.mem_cons_self).1 (h x List.mem_cons_self).2
    obtain ⟨xs, rfl, g⟩ := wts_shape fun z hz => h z (List.mem_cons_of_mem _ hz)
    refine ⟨y :: xs, rfl, fun z hz => ?_⟩
    rcases List.mem_cons.mp hz with rfl | hz
    · exact gy
    · exact g z hz
theorem good_of {d : D} (h : aw d = true) (hs : ∀ x ∈ itemsD d, sm x = true) : ∃ xs, GoodW d xs := by
  unfold aw at h
  simp only [Bool.and_eq_true, decide_eq_true_eq] at h
  obtain ⟨h1, h2, h3⟩ := h
  obtain ⟨xs, e, g⟩ := wts_shape (l := itemsD d) fun x hx => ⟨List.all_eq_true.mp h3 x hx, hs x hx⟩
  refine ⟨xs, ?_, fun x hx => (g x hx).fr, fun x hx => (g x hx).pos, ?_, ?_⟩
  · rcases lt_shape h1 with q | q
    · exact .inr (by rw [q, e])
    · exact .inl (by rw [q, e])
  · have := h2.2
    rw [e, List.length_map] at this
    exact this
  · intro z
    have := h2.1
    rw [e, z] at this
    simp at this
/-- input that the law makes -/
structure In (d s : D) : Prop where
  gd : gw d
  gs : ge s = true
  sd : ∀ x ∈ itemsD d, sm x = true
  ss : sm s = true
section
variable {d s : D}
/-- due -/
theorem due_w (h : In d s) (hw : aw d = false) (μ : Sto) : m_w_due [d, s] μ = .ok (.str "weights") μ := by
  obtain ⟨h1, h2, h3⟩ := h.gd
  refine run_rt ?_ (by simp [lab])
  have hl := isLT_ok (f := eV 0) (ρ := [some d, some s, none, none]) (μ := μ) h1 rfl
  cases z : isLT d with
  | false =>
    rw [z] at hl
    simp [b_w_due, sSeq, sIf, sNx, sRet, tOr, tNot, tB, eC, Res.bind, Res.out, hl]
  | true =>
    rw [z] at hl
    have hn : (eA oLen (aC (eV 0) aN)) [some d, some s, none, none] μ = .ok (.int ((itemsD d).length : Nat)) μ := by
      simp [eA, aC, aN, eV, Res.bind, len_items z]
    have hch := chain_ok hn
    have hc : eLc (fiSeq (eV 0)) (gN 2) [2] tTrue (eA m_w_is_weight (aC (eV 2) aN)) [some d, some s, none, none] μ = .ok (.lst ((itemsD d).map fun x => D.bl (wt x))) μ :=
      lc1 (seq_items z rfl) trivial (by omega) fun x hx => by
        simp only [wipeE, List.set, eA, aC, aN, eV, Res.bind, List.getElem?_cons_succ, List.getElem?_cons_zero]
        exact wweight_ok x (h2 x hx) (h.sd x hx) μ
    by_cases k : 1 ≤ (itemsD d).length ∧ (itemsD d).length ≤ 12
    · simp only [k] at hch
      have ka : (itemsD d).all wt = false := by
        unfold aw at hw
        simpa [z, k] using hw
      have h4 : oAll false [.lst ((itemsD d).map fun x => D.bl (wt x))] μ = .ok (.bl false) μ := by rw [all_ok, ka]
      simp [b_w_due, sSeq, sIf, sNx, sRet, tOr, tNot, tB, eC, Res.bind, Res.out, hl, hch]
      simp [eA, aC, aN, Res.bind, hc, h4]
    · have k' : decide (1 ≤ (itemsD d).length ∧ (itemsD d).length ≤ 12) = false := decide_eq_false k
      rw [k'] at hch
      simp [b_w_due, sSeq, sIf, sNx, sRet, tOr, tNot, tB, eC, Res.bind, Res.out, hl, hch]
/-- the two tests are passed -/
theorem due_pre (h : In d s) (hw : aw d = true) (μ : Sto) (g : FS) : sSeq (sIf (tOr (tNot (tB (eIsT noK (eV 0) (aC (eC (.ty "list")) (aC (eC (.ty "tuple")) aN))))) (tNot (tB (eChain oLe oLe (eC (.int 1)) (eA oLen (aC (eV 0) aN)) (eC (.int 12)))))) (sRet (eC (.str "weights"))) sNx) (sSeq (sIf (tNot (tB (eA (oAll false) (aC (eLc (fiSeq (eV 0)) (gN 2) [2] tTrue (eA m_w_is_weight (aC (eV 2) aN))) aN)))) (sRet (eC (.str "weights"))) sNx) g) [some d, some s, none, none] μ = g [some d, some s, none, none] μ := by
  obtain ⟨h1, h2, h3⟩ := h.gd
  unfold aw at hw
  simp only [Bool.and_eq_true, decide_eq_true_eq] at hw
  obtain ⟨z, k, ka⟩ := hw
  have hl := isLT_ok (f := eV 0) (ρ := [some d, some s, none, none]) (μ := μ) h1 rfl
  rw [z] at hl
  have hn : (eA oLen (aC (eV 0) aN)) [some d, some s, none, none] μ = .ok (.int ((itemsD d).length : Nat)) μ := by
    simp [eA, aC, aN, eV, Res.bind, len_items z]
  have hch := chain_ok hn
  simp only [k] at hch
  have hc : eLc (fiSeq (eV 0)) (gN 2) [2] tTrue (eA m_w_is_weight (aC (eV 2) aN)) [some d, some s, none, none] μ = .ok (.lst ((itemsD d).map fun x => D.bl (wt x))) μ :=
    lc1 (seq_items z rfl) trivial (by omega) fun x hx => by
      simp only [wipeE, List.set, eA, aC, aN, eV, Res.bind, List.getElem?_cons_succ, List.getElem?_cons_zero]
      exact wweight_ok x (h2 x hx) (h.sd x hx) μ
  have h4 : oAll false [.lst ((itemsD d).map fun x => D.bl (wt x))] μ = .ok (.bl true) μ := by rw [all_ok, ka]
  have q1 : sIf (tOr (tNot (tB (eIsT noK (eV 0) (aC (eC (.ty "list")) (aC (eC (.ty "tuple")) aN))))) (tNot (tB (eChain oLe oLe (eC (.int 1)) (eA oLen (aC (eV 0) aN)) (eC (.int 12)))))) (sRet (eC (.str "weights"))) sNx [some d, some s, none, none] μ = .nx [some d, some s, none, none] μ := by
    simp [sIf, sNx, tOr, tNot, tB, Res.bind, Res.out, hl, hch]
  have q2 : sIf (tNot (tB (eA (oAll false) (aC (eLc (fiSeq (eV 0)) (gN 2) [2] tTrue (eA m_w_is_weight (aC (eV 2) aN))) aN)))) (sRet (eC (.str "weights"))) sNx [some d, some s, none, none] μ = .nx [some d, some s, none, none] μ := by
    simp [sIf, sNx, tNot, tB, eA, aC, aN, Res.bind, Res.out, hc, h4]
  rw [seq_nx q1, seq_nx q2]
theorem due_s (h : In d s) (hw : aw d = true) (hs : wt s = false) (μ : Sto) : m_w_due [d, s] μ = .ok (.str "step") μ := by
  refine run_rt ?_ (by simp [lab])
  unfold b_w_due
  refine (due_pre h hw μ _).trans ?_
  simp [sSeq, sIf, sNx, sRet, tNot, tB, eA, aC, aN, eV, eC, Res.bind, Res.out, wweight_ok s h.gs h.ss, hs]
theorem due_ml {xs : List (Int × Int)} {y : Int × Int} (h : In d (fD y)) (hw : aw d = true) (hs : wt (fD y) = true) (g : GoodW d xs) (gy : GoodS y) (μ : Sto) : m_w_due [d, fD y] μ = .ok (.str (if manyF xs y = 0 then "little" else "made")) μ := by
  refine run_rt ?_ (by simp [lab])
  unfold b_w_due
  refine (due_pre h hw μ _).trans ?_
  have t := g.tot.1
  have m1 := mul_ok t.n gy.fr.d (by decide) μ
  have m2 := mul_ok gy.fr.n t.d (by decide) μ
  have q1 : sIf (tNot (tB (eA m_w_is_weight (aC (eV 1) aN)))) (sRet (eC (.str "step"))) sNx [some d, some (fD y), none, none] μ = .nx [some d, some (fD y), none, none] μ := by
    have := wweight_ok (fD y) h.gs h.ss μ
    rw [hs] at this
    simp only [sIf, tNot, tB, eA, aC, aN, eV, Res.bind, Res.out, List.getElem?_cons_succ, List.getElem?_cons_zero, this]
    rfl
  have q2 : sSet 3 (eA m_w_total (aC (eV 0) aN)) [some d, some (fD y), none, none] μ = .nx [some d, some (fD y), none, some (fD (sumF xs))] μ := by
    simp only [sSet, eA, aC, aN, eV, Res.bind, Res.out, List.set, List.getElem?_cons_zero, g.total]
  rw [seq_nx q1, seq_nx q2]
  have hz := many_zero g gy
  have hlt : eA oInt (aC (e2 oLt (e2 oMul (e2 oIx (eV 3) (eC (.int 0))) (e2 oIx (eV 1) (eC (.int 1)))) (e2 oMul (e2 oIx (eV 1) (eC (.int 0))) (e2 oIx (eV 3) (eC (.int 1))))) aN) [some d, some (fD y), none, some (fD (sumF xs))] μ = .ok (.int (if manyF xs y = 0 then 1 else 0)) μ := by
    simp only [eA, aC, aN, e2, eV, eC, Res.bind, List.getElem?_cons_succ, List.getElem?_cons_zero, ix0, ix1, m1, m2, lt_ok, oInt]
    by_cases k : manyF xs y = 0
    · simp [k, hz.mp k]
    · simp [k, mt hz.mpr k]
  have hlst : eA oLstN (aC (eC (.str "made")) (aC (eC (.str "little")) aN)) [some d, some (fD y), none, some (fD (sumF xs))] μ = .ok (.lst [.str "made", .str "little"]) μ := rfl
  refine ret_ok ((e2_ok hlst hlt).trans ?_)
  by_cases k : manyF xs y = 0
  · rw [if_pos k, if_pos k]; rfl
  · rw [if_neg k, if_neg k]; rfl
end
end Pk59
end

section
set_option Elab.async false
set_option linter.all false
set_option autoImplicit false
set_option maxRecDepth 100000
set_option maxHeartbeats 2000000
set_option exponentiation.threshold 3000
namespace Pk59
open PySem DL
/-! told -/
/-- which word the suite finds for a class -/
def word (c : String) : String := if c = "NoWeights" then "weights" else if c = "NoStep" then "step" else "little"
abbrev suite (y : Ex) : FS := (sSeq (sSet 5 (eA oLstN (aC (eA (oIsE (tbK rows) y.c) (aC (eV 4) (aC (eC (.cls "NoWeights")) aN))) (aC (eA (oIsE (tbK rows) y.c) (aC (eV 4) (aC (eC (.cls "NoStep")) aN))) (aC (eA (oIsE (tbK rows) y.c) (aC (eV 4) (aC (eC (.cls "TooLittle")) aN))) aN)))))
   (sSeq (sSet 6 (eOr (eIsET (tbK rows) y.c (eV 4) (aC (eC (.cls "NoCount")) (aC (eC (.cls "NoFraction")) (aC (eC (.cls "NoName")) (aC (eC (.cls "NoWeight")) aN))))) (e1 oNot (eA (oIsE (tbK rows) y.c) (aC (eV 4) (aC (eC (.ty "ValueError")) aN))))))
   (sSet 3 (eIf (tOr (tB (eV 6)) (tB (e2 (oEq true) (eA oSumB (aC (eV 5) aN)) (eC (.int 1))))) (eC (.str "others")) (e2 oIx (eA oLstN (aC (eC (.str "weights")) (aC (eC (.str "step")) (aC (eC (.str "little")) aN)))) (eBM "list" oIndex (eV 5) (aC (eC (.bl true)) aN)))))))
/-- the table's rows for the three classes -/
structure Row (c : Str) (b1 b2 b3 : Bool) : Prop where
  k1 : tbK rows (.cls c) (.cls "NoWeights") = some b1
  k2 : tbK rows (.cls c) (.cls "NoStep") = some b2
  k3 : tbK rows (.cls c) (.cls "TooLittle") = some b3
  o1 : tbK rows (.cls c) (.cls "NoCount") = some false
  o2 : tbK rows (.cls c) (.cls "NoFraction") = some false
  o3 : tbK rows (.cls c) (.cls "NoName") = some false
  o4 : tbK rows (.cls c) (.cls "NoWeight") = some false
  ve : tbK rows (.cls c) (.ty "ValueError") = some true
  kn : (sub_LoafError.any fun r => decide (Str.ofString r.1 = c)) = true
  su : subOf sub_LoafError c = true
theorem row_w : Row "NoWeights" true false false := ⟨by decide +kernel, by decide +kernel, by decide +kernel, by decide +kernel, by decide +kernel, by decide +kernel, by decide +kernel, by decide +kernel, by decide +kernel, by decide +kernel⟩
theorem row_s : Row "NoStep" false true false := ⟨by decide +kernel, by decide +kernel, by decide +kernel, by decide +kernel, by decide +kernel, by decide +kernel, by decide +kernel, by decide +kernel, by decide +kernel, by decide +kernel⟩
theorem row_l : Row "TooLittle" false false true := ⟨by decide +kernel, by decide +kernel, by decide +kernel, by decide +kernel, by decide +kernel, by decide +kernel, by decide +kernel, by decide +kernel, by decide +kernel, by decide +kernel⟩
abbrev er (c : Str) : D := .err c false [] []
def pick (b1 b2 : Bool) : Str := if b1 then "weights" else if b2 then "step" else "little"
theorem suite_ok {c : Str} {b1 b2 b3 : Bool} (r : Row c b1 b2 b3) (h1 : (b1 && !b2 && !b3 || !b1 && b2 && !b3 || !b1 && !b2 && b3) = true) (d0 d1 d2 d3 : D) (μ : Sto) :
    suite ⟨c, none⟩ [some d0, some d1, some d2, some d3, some (er c), none, none] μ = .nx [some d0, some d1, some d2, some (.str (pick b1 b2)), some (er c), some (.lst [.bl b1, .bl b2, .bl b3]), some (.bl false)] μ := by
  have s1 : sSet 5 (eA oLstN (aC (eA (oIsE (tbK rows) c) (aC (eV 4) (aC (eC (.cls "NoWeights")) aN))) (aC (eA (oIsE (tbK rows) c) (aC (eV 4) (aC (eC (.cls "NoStep")) aN))) (aC (eA (oIsE (tbK rows) c) (aC (eV 4) (aC (eC (.cls "TooLittle")) aN))) aN)))) [some d0, some d1, some d2, some d3, some (er c), none, none] μ = .nx [some d0, some d1, some d2, some d3, some (er c), some (.lst [.bl b1, .bl b2, .bl b3]), none] μ := by
    simp only [sSet, eA, aC, aN, eV, eC, Res.bind, Res.out, List.set, List.getElem?_cons_succ, List.getElem?_cons_zero, oIsE, isC, if_true, r.k1, r.k2, r.k3]
    rfl
  have s2 : sSet 6 (eOr (eIsET (tbK rows) c (eV 4) (aC (eC (.cls "NoCount")) (aC (eC (.cls "NoFraction")) (aC (eC (.cls "NoName")) (aC (eC (.cls "NoWeight")) aN))))) (e1 oNot (eA (oIsE (tbK rows) c) (aC (eV 4) (aC (eC (.ty "ValueError")) aN))))) [some d0, some d1, some d2, some d3, some (er c), some (.lst [.bl b1, .bl b2, .bl b3]), none] μ = .nx [some d0, some d1, some d2, some d3, some (er c), some (.lst [.bl b1, .bl b2, .bl b3]), some (.bl false)] μ := by
    have e : anyE (tbK rows) c [.cls "NoCount", .cls "NoFraction", .cls "NoName", .cls "NoWeight"] = some false := by
      simp only [anyE, r.o1, r.o2, r.o3, r.o4]
    have k : knows1 (tbK rows) c [.cls "NoCount", .cls "NoFraction", .cls "NoName", .cls "NoWeight"] = true := by
      simp only [knows1, r.o1]
      rfl
    have hT : eIsET (tbK rows) c (eV 4) (aC (eC (.cls "NoCount")) (aC (eC (.cls "NoFraction")) (aC (eC (.cls "NoName")) (aC (eC (.cls "NoWeight")) aN)))) [some d0, some d1, some d2, some d3, some (er c), some (.lst [.bl b1, .bl b2, .bl b3]), none] μ = .ok (.bl false) μ := by
      simp only [eIsET, aC, aN, eV, eC, Res.bind, List.getElem?_cons_succ, List.getElem?_cons_zero, e, k]
      rfl
    have hV : e1 oNot (eA (oIsE (tbK rows) c) (aC (eV 4) (aC (eC (.ty "ValueError")) aN))) [some d0, some d1, some d2, some d3, some (er c), some (.lst [.bl b1, .bl b2, .bl b3]), none] μ = .ok (.bl false) μ := by
      simp only [e1, eA, aC, aN, eV, eC, Res.bind, List.getElem?_cons_succ, List.getElem?_cons_zero, oIsE, isC, if_true, r.ve, oNot]
      rfl
    refine set_ok ?_
    unfold eOr
    rw [hT]
    exact hV
  have s3 : sSet 3 (eIf (tOr (tB (eV 6)) (tB (e2 (oEq true) (eA oSumB (aC (eV 5) aN)) (eC (.int 1))))) (eC (.str "others")) (e2 oIx (eA oLstN (aC (eC (.str "weights")) (aC (eC (.str "step")) (aC (eC (.str "little")) aN)))) (eBM "list" oIndex (eV 5) (aC (eC (.bl true)) aN)))) [some d0, some d1, some d2, some d3, some (er c), some (.lst [.bl b1, .bl b2, .bl b3]), some (.bl false)] μ = .nx [some d0, some d1, some d2, some (.str (pick b1 b2)), some (er c), some (.lst [.bl b1, .bl b2, .bl b3]), some (.bl false)] μ := by
    have hs : oSumB [.lst [.bl b1, .bl b2, .bl b3]] μ = .ok (.int 1) μ := by
      cases b1 <;> cases b2 <;> cases b3 <;> first | rfl | (cases h1; done)
    have ht : tOr (tB (eV 6)) (tB (e2 (oEq true) (eA oSumB (aC (eV 5) aN)) (eC (.int 1)))) [some d0, some d1, some d2, some d3, some (er c), some (.lst [.bl b1, .bl b2, .bl b3]), some (.bl false)] μ = .ok false μ := by
      simp only [tOr, tB, e2, eA, aC, aN, eV, eC, Res.bind, List.getElem?_cons_succ, List.getElem?_cons_zero, hs, ne_int]
      rfl
    have hx : e2 oIx (eA oLstN (aC (eC (.str "weights")) (aC (eC (.str "step")) (aC (eC (.str "little")) aN)))) (eBM "list" oIndex (eV 5) (aC (eC (.bl true)) aN)) [some d0, some d1, some d2, some d3, some (er c), some (.lst [.bl b1, .bl b2, .bl b3]), some (.bl false)] μ = .ok (.str (pick b1 b2)) μ := by
      cases b1 <;> cases b2 <;> cases b3 <;> first | rfl | (cases h1; done)
    refine set_ok ?_
    unfold eIf
    rw [ht]
    exact hx
  unfold suite
  rw [seq_nx s1, seq_nx s2]
  exact s3
theorem noErr_str (x : Str) : noErr (.str x) = true := rfl
theorem clean_ok {c : Str} {b1 b2 b3 : Bool} {d0 d1 d2 d3 : D} {x : Str} (μ : Sto) : Clean [some d0, some d1, some d2, some d3, none, none, none] [some d0, some d1, some d2, some (.str x), none, some (.lst [.bl b1, .bl b2, .bl b3]), some (.bl false)] μ μ := by
  refine ⟨fun j d h => ?_, fun n d h => .inl h⟩
  match j, h with
  | 0, h => exact .inl h
  | 1, h => exact .inl h
  | 2, h => exact .inl h
  | 3, h => cases h; exact .inr rfl
  | 4, h => cases h
  | 5, h => cases h; exact .inr rfl
  | 6, h => cases h; exact .inr rfl
  | j + 7, h => cases h
noncomputable abbrev tries : FS := (sIf (tB (e2 (oEq false) (eV 0) (eC (.int 0)))) (sExpr (eA m_aims (aC (eV 1) (aC (eV 2) aN)))) (sIf (tB (e2 (oEq false) (eV 0) (eC (.int 1)))) (sExpr (eA m_rounded (aC (eV 1) (aC (eV 2) aN)))) (sIf (tB (e2 (oEq false) (eV 0) (eC (.int 2)))) (sExpr (eA m_worst_of (aC (eV 1) (aC (eV 2) (aC (eRep (eA oLstN (aC (eC (.int 0)) aN)) (eIf (tB (eIsT noK (eV 1) (aC (eC (.ty "list")) (aC (eC (.ty "tuple")) aN)))) (eA oLen (aC (eV 1) aN)) (eC (.int 1)))) aN))))) (sIf (tB (e2 (oEq false) (eV 0) (eC (.int 3)))) (sExpr (eA m_paper (aC (eV 1) (aC (eV 2) (aC (eA oTupN (aC (eC (.int 1)) (aC (eC (.int 2)) aN))) aN))))) (sExpr (eA m_shows (aC (eV 1) (aC (eV 2) (aC (eA oTupN (aC (eC (.int 1)) (aC (eC (.int 2)) aN))) (aC (eA oTupN (aC (eA oLstN aN) (aC (eA oLstN aN) aN))) aN)))))))))) 
theorem told_ex {c : Str} {b1 b2 b3 : Bool} (r : Row c b1 b2 b3) (h1 : (b1 && !b2 && !b3 || !b1 && b2 && !b3 || !b1 && !b2 && b3) = true) {w d s : D} {μ : Sto} (h : tries [some w, some d, some s, some (.str "made"), none, none, none] μ = .ex ⟨c, none⟩ [some w, some d, some s, some (.str "made"), none, none, none] μ) :
    m_w_told [w, d, s] μ = .ok (.str (pick b1 b2)) μ := by
  refine run_rt ?_ (by simp [lab])
  have s1 : sSet 3 (eC (.str "made")) ([w, d, s].map some ++ List.replicate (7 - [w, d, s].length) none) μ = .nx [some w, some d, some s, some (.str "made"), none, none, none] μ := rfl
  have s2 : sTry (sKnow sub_LoafError tries) (subOf sub_LoafError) 4 suite [some w, some d, some s, some (.str "made"), none, none, none] μ = .nx [some w, some d, some s, some (.str (pick b1 b2)), none, some (.lst [.bl b1, .bl b2, .bl b3]), some (.bl false)] μ := by
    have k : sKnow sub_LoafError tries [some w, some d, some s, some (.str "made"), none, none, none] μ = .ex ⟨c, none⟩ [some w, some d, some s, some (.str "made"), none, none, none] μ := by
      unfold sKnow
      rw [h]
      simp only [r.kn, if_true]
    unfold sTry
    rw [k]
    simp only [r.su, if_true]
    have e : ([some w, some d, some s, some (.str "made"), none, none, none] : DL.Env).set 4 (some (exErr ⟨c, none⟩)) = [some w, some d, some s, some (.str "made"), some (er c), none, none] := rfl
    rw [e, suite_ok r h1]
    simp only
    exact if_pos (clean_ok (c := c) μ)
  unfold b_w_told
  rw [seq_nx s1, seq_nx s2]
  rfl
theorem told_nx {w d s : D} {μ : Sto} (h : tries [some w, some d, some s, some (.str "made"), none, none, none] μ = .nx [some w, some d, some s, some (.str "made"), none, none, none] μ) :
    m_w_told [w, d, s] μ = .ok (.str "made") μ := by
  refine run_rt ?_ (by simp [lab])
  have s1 : sSet 3 (eC (.str "made")) ([w, d, s].map some ++ List.replicate (7 - [w, d, s].length) none) μ = .nx [some w, some d, some s, some (.str "made"), none, none, none] μ := rfl
  have s2 : sTry (sKnow sub_LoafError tries) (subOf sub_LoafError) 4 suite [some w, some d, some s, some (.str "made"), none, none, none] μ = .nx [some w, some d, some s, some (.str "made"), none, none, none] μ := by
    have k : sKnow sub_LoafError tries [some w, some d, some s, some (.str "made"), none, none, none] μ = .nx [some w, some d, some s, some (.str "made"), none, none, none] μ := by
      unfold sKnow
      rw [h]
    unfold sTry
    rw [k]
  unfold b_w_told
  rw [seq_nx s1, seq_nx s2]
  rfl
theorem eq_fT (i j : Int) (h : i = j) (μ : Sto) {ρ : DL.Env} {f g : FD} (hf : f ρ μ = .ok (.int i) μ) (hg : g ρ μ = .ok (.int j) μ) : tB (e2 (oEq false) f g) ρ μ = .ok true μ :=
  tB_ok ((e2_ok hf hg).trans (by rw [eq_int, decide_eq_true h]))
theorem eq_fF (i j : Int) (h : i ≠ j) (μ : Sto) {ρ : DL.Env} {f g : FD} (hf : f ρ μ = .ok (.int i) μ) (hg : g ρ μ = .ok (.int j) μ) : tB (e2 (oEq false) f g) ρ μ = .ok false μ :=
  tB_ok ((e2_ok hf hg).trans (by rw [eq_int, decide_eq_false h]))
theorem expr_ex {f : FD} {ρ : DL.Env} {μ μ1 : Sto} {x : Ex} (h : f ρ μ = .ex x μ1) : sExpr f ρ μ = .ex x ρ μ1 := by
  unfold sExpr
  rw [h]
  rfl
theorem expr_ok {f : FD} {ρ : DL.Env} {μ μ1 : Sto} {d : D} (h : f ρ μ = .ok d μ1) : sExpr f ρ μ = .nx ρ μ1 := by
  unfold sExpr
  rw [h]
  rfl
section
variable {d s : D} {w : Int}
theorem zeros_ok (h : gw d) (w2 : D) (μ : Sto) : ∃ l, eRep (eA oLstN (aC (eC (.int 0)) aN)) (eIf (tB (eIsT noK (eV 1) (aC (eC (.ty "list")) (aC (eC (.ty "tuple")) aN)))) (eA oLen (aC (eV 1) aN)) (eC (.int 1))) [some w2, some d, some s, some (.str "made"), none, none, none] μ = .ok (.lst l) μ := by
  have hl := isLT_ok (f := eV 1) (ρ := [some w2, some d, some s, some (.str "made"), none, none, none]) (μ := μ) h.1 rfl
  have hz : eA oLstN (aC (eC (.int 0)) aN) [some w2, some d, some s, some (.str "made"), none, none, none] μ = .ok (.lst [.int 0]) μ := rfl
  have key : ∃ n : Nat, n ≤ 1000 ∧ eIf (tB (eIsT noK (eV 1) (aC (eC (.ty "list")) (aC (eC (.ty "tuple")) aN)))) (eA oLen (aC (eV 1) aN)) (eC (.int 1)) [some w2, some d, some s, some (.str "made"), none, none, none] μ = .ok (.int (n : Int)) μ := by
    cases z : isLT d with
    | false =>
      rw [z] at hl
      refine ⟨1, by omega, ?_⟩
      unfold eIf
      rw [tB_ok hl]
      rfl
    | true =>
      rw [z] at hl
      refine ⟨(itemsD d).length, h.2.2, ?_⟩
      unfold eIf
      rw [tB_ok hl]
      simp only [Res.bind, if_true]
      simp only [eA, aC, aN, eV, Res.bind, List.getElem?_cons_succ, List.getElem?_cons_zero, len_items z]
  obtain ⟨n, hn, e⟩ := key
  refine ⟨(List.replicate n [D.int 0]).flatten, ?_⟩
  unfold eRep
  rw [hz]
  simp only [Res.bind]
  rw [e]
  simp only [cOf]
  rw [if_pos ⟨by omega, by omega, by simp; omega⟩]
  simp
theorem ways {w : Int} (h0 : 0 ≤ w) (h5 : w < 5) : w = 0 ∨ w = 1 ∨ w = 2 ∨ w = 3 ∨ w = 4 := by omega
theorem tries_ex {c : Str} (hd : gw d) (ha : ∀ μ, m_aims [d, s] μ = .ex ⟨c, none⟩ μ) (h0 : 0 ≤ w) (h5 : w < 5) (μ : Sto) : tries [some (.int w), some d, some s, some (.str "made"), none, none, none] μ = .ex ⟨c, none⟩ [some (.int w), some d, some s, some (.str "made"), none, none, none] μ := by
  have v1 : aC (eV 1) (aC (eV 2) aN) [some (.int w), some d, some s, some (.str "made"), none, none, none] μ = .ok [d, s] μ := rfl
  rcases ways h0 h5 with e | e | e | e | e
  · exact (if_tt (eq_fT w 0 e μ rfl rfl)).trans (expr_ex ((eA_ok v1).trans (ha μ)))
  · exact (if_ff (eq_fF w 0 (by omega) μ rfl rfl)).trans ((if_tt (eq_fT w 1 e μ rfl rfl)).trans (expr_ex ((eA_ok v1).trans (rounded_ex ha μ))))
  · obtain ⟨l, hz⟩ := zeros_ok (s := s) hd (.int w) μ
    have v2 : aC (eV 1) (aC (eV 2) (aC (eRep (eA oLstN (aC (eC (.int 0)) aN)) (eIf (tB (eIsT noK (eV 1) (aC (eC (.ty "list")) (aC (eC (.ty "tuple")) aN)))) (eA oLen (aC (eV 1) aN)) (eC (.int 1)))) aN)) [some (.int w), some d, some s, some (.str "made"), none, none, none] μ = .ok [d, s, .lst l] μ :=
      aC_ok (d := d) rfl (aC_ok (d := s) rfl (aC_ok hz rfl))
    exact (if_ff (eq_fF w 0 (by omega) μ rfl rfl)).trans ((if_ff (eq_fF w 1 (by omega) μ rfl rfl)).trans ((if_tt (eq_fT w 2 e μ rfl rfl)).trans (expr_ex ((eA_ok v2).trans (worst_ex ha _ μ)))))
  · have v3 : aC (eV 1) (aC (eV 2) (aC (eA oTupN (aC (eC (.int 1)) (aC (eC (.int 2)) aN))) aN)) [some (.int w), some d, some s, some (.str "made"), none, none, none] μ = .ok [d, s, fD (1, 2)] μ := rfl
    exact (if_ff (eq_fF w 0 (by omega) μ rfl rfl)).trans ((if_ff (eq_fF w 1 (by omega) μ rfl rfl)).trans ((if_ff (eq_fF w 2 (by omega) μ rfl rfl)).trans ((if_tt (eq_fT w 3 e μ rfl rfl)).trans (expr_ex ((eA_ok v3).trans (paper_ex ha _ μ))))))
  · have v4 : aC (eV 1) (aC (eV 2) (aC (eA oTupN (aC (eC (.int 1)) (aC (eC (.int 2)) aN))) (aC (eA oTupN (aC (eA oLstN aN) (aC (eA oLstN aN) aN))) aN))) [some (.int w), some d, some s, some (.str "made"), none, none, none] μ = .ok [d, s, fD (1, 2), .tup [.lst [], .lst []]] μ := rfl
    exact (if_ff (eq_fF w 0 (by omega) μ rfl rfl)).trans ((if_ff (eq_fF w 1 (by omega) μ rfl rfl)).trans ((if_ff (eq_fF w 2 (by omega) μ rfl rfl)).trans ((if_ff (eq_fF w 3 (by omega) μ rfl rfl)).trans (expr_ex ((eA_ok v4).trans (shows_ex ha _ _ μ))))))
theorem tries_ok {xs ys : List (Int × Int)} {y : Int × Int} (a : Aims ys) (g : GoodW d xs) (gy : GoodS y) (ha : ∀ μ, m_aims [d, fD y] μ = .ok (.lst (ys.map fD)) μ) (h0 : 0 ≤ w) (h5 : w < 5) (h2 : w ≠ 2) (μ : Sto) : tries [some (.int w), some d, some (fD y), some (.str "made"), none, none, none] μ = .nx [some (.int w), some d, some (fD y), some (.str "made"), none, none, none] μ := by
  have v1 : aC (eV 1) (aC (eV 2) aN) [some (.int w), some d, some (fD y), some (.str "made"), none, none, none] μ = .ok [d, fD y] μ := rfl
  rcases ways h0 h5 with e | e | e | e | e
  · exact (if_tt (eq_fT w 0 e μ rfl rfl)).trans (expr_ok ((eA_ok v1).trans (ha μ)))
  · obtain ⟨r, hr⟩ := rounded_ok a g gy ha μ
    exact (if_ff (eq_fF w 0 (by omega) μ rfl rfl)).trans ((if_tt (eq_fT w 1 e μ rfl rfl)).trans (expr_ok ((eA_ok v1).trans hr)))
  · exact absurd e h2
  · obtain ⟨us, ds, hp⟩ := paper_ok a ha μ
    have v3 : aC (eV 1) (aC (eV 2) (aC (eA oTupN (aC (eC (.int 1)) (aC (eC (.int 2)) aN))) aN)) [some (.int w), some d, some (fD y), some (.str "made"), none, none, none] μ = .ok [d, fD y, fD (1, 2)] μ := rfl
    exact (if_ff (eq_fF w 0 (by omega) μ rfl rfl)).trans ((if_ff (eq_fF w 1 (by omega) μ rfl rfl)).trans ((if_ff (eq_fF w 2 (by omega) μ rfl rfl)).trans ((if_tt (eq_fT w 3 e μ rfl rfl)).trans (expr_ok ((eA_ok v3).trans hp)))))
  · obtain ⟨b, hb⟩ := shows_ok a g ha μ
    have v4 : aC (eV 1) (aC (eV 2) (aC (eA oTupN (aC (eC (.int 1)) (aC (eC (.int 2)) aN))) (aC (eA oTupN (aC (eA oLstN aN) (aC (eA oLstN aN) aN))) aN))) [some (.int w), some d, some (fD y), some (.str "made"), none, none, none] μ = .ok [d, fD y, fD (1, 2), .tup [.lst [], .lst []]] μ := rfl
    exact (if_ff (eq_fF w 0 (by omega) μ rfl rfl)).trans ((if_ff (eq_fF w 1 (by omega) μ rfl rfl)).trans ((if_ff (eq_fF w 2 (by omega) μ rfl rfl)).trans ((if_ff (eq_fF w 3 (by omega) μ rfl rfl)).trans (expr_ok ((eA_ok v4).trans hb)))))
/-- due and told are one -/
theorem agree (h : In d s) : ∃ o : Str, (∀ μ, m_w_due [d, s] μ = .ok (.str o) μ) ∧ ∀ w : Int, 0 ≤ w → w < 5 → (w ≠ 2 ∨ o ≠ "made") → ∀ μ, m_w_told [.int w, d, s] μ = .ok (.str o) μ := by
  cases hw : aw d with
  | false =>
    refine ⟨"weights", due_w h hw, fun w h0 h5 _ μ => ?_⟩
    exact told_ex row_w rfl (tries_ex h.gd (aims_ex fun μ => many_w h.gd hw s μ) h0 h5 μ)
  | true =>
    obtain ⟨xs, g⟩ := good_of hw h.sd
    cases hs : wt s with
    | false =>
      refine ⟨"step", due_s h hw hs, fun w h0 h5 _ μ => ?_⟩
      exact told_ex row_s rfl (tries_ex h.gd (aims_ex fun μ => many_s h.gd hw h.gs hs μ) h0 h5 μ)
    | true =>
      obtain ⟨y, rfl, gy⟩ := wt_shape hs h.ss
      by_cases hm : manyF xs y = 0
      · refine ⟨"little", fun μ => by rw [due_ml h hw hs g gy, if_pos hm], fun w h0 h5 _ μ => ?_⟩
        exact told_ex row_l rfl (tries_ex h.gd (aims_ex fun μ => many_l h.gd hw g gy h.gs hs hm μ) h0 h5 μ)
      · refine ⟨"made", fun μ => by rw [due_ml h hw hs g gy, if_neg hm], fun w h0 h5 h2 μ => ?_⟩
        have ha := aims_ok g gy fun μ => many_m h.gd hw g gy h.gs hs hm μ
        have ha2 : ∀ μ, m_aims [d, fD y] μ = .ok (.lst ((xs.map (aimF xs y)).map fD)) μ := fun μ => by
          rw [ha μ, List.map_map]
          rfl
        exact told_nx (tries_ok (aims_of g gy) g gy ha2 h0 h5 (h2.resolve_right fun z => z rfl) μ)
end
end Pk59
end

section
set_option Elab.async false
set_option linter.all false
set_option autoImplicit false
set_option maxRecDepth 100000
set_option maxHeartbeats 2000000
set_option exponentiation.threshold 3000
namespace Pk59
open PySem DL
/-! draws: the pot is the store's last object -/
structure PotB (x : D) : Prop where
  ex : ∃ a b : Int, x = iL [a, b] ∧ 0 ≤ a ∧ 0 ≤ b ∧ b < 2147483648
abbrev st (μ : Sto) (x : D) : Sto := μ ++ [some x]
theorem st_get (μ : Sto) (x : D) : (st μ x)[μ.length]? = some (some x) := by simp
theorem st_set (μ : Sto) (x y : D) : (st μ x).set μ.length (some y) = st μ y := by
  rw [List.set_append_right _ _ (Nat.le_refl _), Nat.sub_self]
  rfl
theorem st_kept (μ : Sto) (x y : D) (h : lab y = 0) : Kept (st μ x).length (st μ x) (st μ y) := by
  refine ⟨by simp, fun m hm => ?_⟩
  by_cases e : m < μ.length
  · left
    rw [List.getElem?_append_left e, List.getElem?_append_left e]
  · right
    have e2 : m = μ.length := by
      simp at hm
      omega
    subst e2
    exact ⟨y, st_get μ y, by omega⟩
theorem st_take (μ : Sto) (x y : D) : (st μ y).take (st μ x).length = st μ y := by
  rw [List.take_of_length_le (by simp)]
theorem eCo (d : D) (ρ : DL.Env) (μ : Sto) : eC d ρ μ = .ok d μ := rfl
theorem mod_ok {i j : Int} (h : 0 < j) (μ : Sto) : oMod (.int i) (.int j) μ = .ok (.int (i % j)) μ := by
  simp [iI, cOf, h]
theorem lab_iL (l : List Int) : lab (iL l) = 0 := labs_int (fun x => x) l
theorem run_st {n : Nat} {g : FS} {ds : List D} {μ : Sto} {x y d : D} (h : g (ds.map some ++ List.replicate (n - ds.length) none) (st μ x) = .rt d (st μ y)) (hl : lab d = 0) (hy : lab y = 0) : run n g ds (st μ x) = .ok d (st μ y) := by
  have := run_rt' h (by omega) (st_kept μ x y hy)
  rwa [st_take] at this
theorem draw_ok {x : D} (hx : PotB x) {m : Int} (h0 : 0 < m) (h1 : m ≤ 1000000000000) (μ : Sto) : ∃ r y, m_w_draw [.own μ.length, .int m] (st μ x) = .ok (.int r) (st μ y) ∧ 0 ≤ r ∧ r < m ∧ PotB y := by
  obtain ⟨a, b, rfl, ha, hb, hb2⟩ := hx.ex
  have i0 : ∀ u v : Int, oIx (.own μ.length) (.int 0) (st μ (iL [u, v])) = .ok (.int u) (st μ (iL [u, v])) := fun u v => by
    simp [oIx, seqD, cOf, L2.atI, L2.ixN]
  have i1 : ∀ u v : Int, oIx (.own μ.length) (.int 1) (st μ (iL [u, v])) = .ok (.int v) (st μ (iL [u, v])) := fun u v => by
    simp [oIx, seqD, cOf, L2.atI, L2.ixN]
  have w0 : ∀ u v z : Int, sLst (.own μ.length) (.int 0) (.int z) (st μ (iL [u, v])) = some (st μ (iL [z, v])) := fun u v z => by
    simp only [sLst, lstOf, st_get]
    simp [L2.ixN, st_set]
  have w1 : ∀ u v z : Int, sLst (.own μ.length) (.int 1) (.int z) (st μ (iL [u, v])) = some (st μ (iL [u, z])) := fun u v z => by
    simp only [sLst, lstOf, st_get]
    simp [L2.ixN, st_set]
  have env : ([D.own μ.length, .int m].map some ++ List.replicate (3 - [D.own μ.length, .int m].length) none : DL.Env) = [some (.own μ.length), some (.int m), none] := rfl
  have hg : tB (e2 oGt (e2 oIx (eV 0) (eC (.int 0))) (eC (.int 0))) [some (.own μ.length), some (.int m), none] (st μ (iL [a, b])) = .ok (decide (0 < a)) (st μ (iL [a, b])) :=
    tB_ok ((e2_ok ((e2_ok rfl rfl).trans (i0 a b)) rfl).trans (gt_ok a 0 _))
  by_cases k : 0 < a
  · rw [decide_eq_true k] at hg
    refine ⟨a % m, iL [a / m, b], run_st ?_ rfl (lab_iL _), Int.emod_nonneg _ (by omega), Int.emod_lt_of_pos _ h0, ⟨a / m, b, rfl, Int.ediv_nonneg ha (by omega), hb, hb2⟩⟩
    have hm : m.natAbs.log2 < 9000 := by
      have := log2_le (n := m.natAbs) (p := 40) (by omega)
      omega
    have hd : eA oDivmod (aC (e2 oIx (eV 0) (eC (.int 0))) (aC (eV 1) aN)) [some (.own μ.length), some (.int m), none] (st μ (iL [a, b])) = .ok (.tup [.int (a / m), .int (a % m)]) (st μ (iL [a, b])) := by
      refine (eA_ok (aC_ok ((e2_ok rfl rfl).trans (i0 a b)) (aC_ok (d := .int m) rfl rfl))).trans ?_
      simp only [oDivmod]
      rw [if_pos ⟨h0, hm⟩]
    have s1 : sAsg (eA oDivmod (aC (e2 oIx (eV 0) (eC (.int 0))) (aC (eV 1) aN))) (aT 2 (asC (aSub (eV 0) (eC (.int 0)) sLst) (asC (aN' 2) asN))) [some (.own μ.length), some (.int m), none] (st μ (iL [a, b])) = .nx [some (.own μ.length), some (.int m), some (.int (a % m))] (st μ (iL [a / m, b])) := by
      unfold sAsg
      rw [hd]
      simp only [Res.out, aT, cOf, List.length_cons, List.length_nil, if_true, asC, aSub, eV, eC, List.getElem?_cons_zero, w0, Option.map_some, aN', asN, List.set]
    unfold b_w_draw
    rw [env, seq_rt ((if_tt hg).trans ((seq_nx s1).trans (ret_ok (d := .int (a % m)) rfl)))]
  · rw [decide_eq_false k] at hg
    have v0 : 0 ≤ (b * 39373 + 8191) % 2147483587 := Int.emod_nonneg _ (by decide)
    have v1 : (b * 39373 + 8191) % 2147483587 < 2147483587 := Int.emod_lt_of_pos _ (by decide)
    have hv : e2 oMod (e2 oAdd (e2 oMul (e2 oIx (eV 0) (eC (.int 1))) (eC (.int 39373))) (eC (.int 8191))) (eC (.int 2147483587)) [some (.own μ.length), some (.int m), none] (st μ (iL [a, b])) = .ok (.int ((b * 39373 + 8191) % 2147483587)) (st μ (iL [a, b])) := by
      have m1 := mul_ok (i := b) (j := 39373) (p := 31) (q := 16) (by omega) (by decide) (by decide) (st μ (iL [a, b]))
      exact (e2_ok ((e2_ok ((e2_ok ((e2_ok rfl (eCo _ _ _)).trans (i1 a b)) (eCo _ _ _)).trans m1) (eCo _ _ _)).trans (add_ok _ _ _)) (eCo _ _ _)).trans (mod_ok (by decide) _)
    revert v0 v1 hv
    generalize (b * 39373 + 8191) % 2147483587 = v
    intro v0 v1 hv
    have s1 : sAsg (e2 oMod (e2 oAdd (e2 oMul (e2 oIx (eV 0) (eC (.int 1))) (eC (.int 39373))) (eC (.int 8191))) (eC (.int 2147483587))) (aSub (eV 0) (eC (.int 1)) sLst) [some (.own μ.length), some (.int m), none] (st μ (iL [a, b])) = .nx [some (.own μ.length), some (.int m), none] (st μ (iL [a, v])) := by
      unfold sAsg
      rw [hv]
      simp only [Res.out, aSub, eV, eC, List.getElem?_cons_zero, w1, Option.map_some]
    have hr : e2 oMod (e2 oDiv (e2 oMod (e2 oMul (e2 oIx (eV 0) (eC (.int 1))) (e2 oIx (eV 0) (eC (.int 1)))) (eC (.int 2147483543))) (eC (.int 13))) (eV 1) [some (.own μ.length), some (.int m), none] (st μ (iL [a, v])) = .ok (.int (v * v % 2147483543 / 13 % m)) (st μ (iL [a, v])) := by
      have m1 := mul_ok (i := v) (j := v) (p := 31) (q := 31) (by omega) (by omega) (by decide) (st μ (iL [a, v]))
      have q1 : e2 oIx (eV 0) (eC (.int 1)) [some (.own μ.length), some (.int m), none] (st μ (iL [a, v])) = .ok (.int v) (st μ (iL [a, v])) := (e2_ok rfl rfl).trans (i1 a v)
      have d1 := div_ok (i := v * v % 2147483543) (j := 13) (q := 4) (by decide) (by decide) (by decide) (st μ (iL [a, v]))
      exact (e2_ok ((e2_ok ((e2_ok ((e2_ok q1 q1).trans m1) (eCo _ _ _)).trans (mod_ok (by decide) _)) (eCo _ _ _)).trans d1) (e := .int m) rfl).trans (mod_ok h0 _)
    refine ⟨v * v % 2147483543 / 13 % m, iL [a, v], run_st ?_ rfl (lab_iL _), Int.emod_nonneg _ (by omega), Int.emod_lt_of_pos _ h0, ⟨a, v, rfl, ha, v0, by omega⟩⟩
    unfold b_w_draw
    have s0 : sIf (tB (e2 oGt (e2 oIx (eV 0) (eC (.int 0))) (eC (.int 0)))) (sSeq (sAsg (eA oDivmod (aC (e2 oIx (eV 0) (eC (.int 0))) (aC (eV 1) aN))) (aT 2 (asC (aSub (eV 0) (eC (.int 0)) sLst) (asC (aN' 2) asN)))) (sRet (eV 2))) sNx [some (.own μ.length), some (.int m), none] (st μ (iL [a, b])) = .nx [some (.own μ.length), some (.int m), none] (st μ (iL [a, b])) := (if_ff hg).trans rfl
    rw [env, seq_nx s0, seq_nx s1, ret_ok hr]
end Pk59
end

section
set_option Elab.async false
set_option linter.all false
set_option autoImplicit false
set_option maxRecDepth 100000
set_option maxHeartbeats 2000000
set_option exponentiation.threshold 3000
namespace Pk59
open PySem DL
/-! what prints well -/
def niceB (k w : Nat) (d : D) : Bool := match pyD d with
  | some p => p.showable && p.leavesShort 13 && decide (p.weight ≤ w) && decide (p.depth ≤ k)
  | none => false
theorem nice_ok {k w : Nat} {d : D} (h : niceB k w d = true) : ∃ p, pyD d = some p ∧ p.showable = true ∧ p.leavesShort 13 = true ∧ p.weight ≤ w ∧ p.depth ≤ k := by
  unfold niceB at h
  cases z : pyD d with
  | none => rw [z] at h; cases h
  | some p =>
    rw [z] at h
    simp only [Bool.and_eq_true, decide_eq_true_eq] at h
    exact ⟨p, rfl, h.1.1.1, h.1.1.2, h.1.2, h.2⟩
/-- a step, a weight, as the law makes them -/
def skB (d : D) : Bool := ge d && (sm d && niceB 3 1000 d)
structure Wk (d : D) : Prop where
  gd : gw d
  sd : ∀ x ∈ itemsD d, sm x = true
  rp : niceB 5 500000 d = true
def wkB (d : D) : Bool := pl d && ((itemsD d).all (fun x => ge x && sm x) && (decide ((itemsD d).length ≤ 1000) && niceB 5 500000 d))
theorem wk_of {d : D} (h : wkB d = true) : Wk d := by
  unfold wkB at h
  simp only [Bool.and_eq_true, decide_eq_true_eq, List.all_eq_true] at h
  exact ⟨⟨h.1, fun x hx => (h.2.1 x hx).1, h.2.2.1⟩, fun x hx => (h.2.1 x hx).2, h.2.2.2⟩
theorem nices : ∀ {l : List D}, (∀ x ∈ l, skB x = true) → ∃ ps, pyDs l = some ps ∧ PyData.showableAll ps = true ∧ PyData.leavesShortAll 13 ps = true ∧ PyData.weightAll ps ≤ l.length * 1001 ∧ PyData.depthAll ps ≤ 3
  | [], _ => ⟨[], rfl, rfl, rfl, Nat.le_refl _, Nat.zero_le _⟩
  | x :: l, h => by
    have hx := h x List.mem_cons_self
    unfold skB at hx
    simp only [Bool.and_eq_true] at hx
    obtain ⟨p, e1, a1, a2, a3, a4⟩ := nice_ok hx.2.2
    obtain ⟨ps, e2, b1, b2, b3, b4⟩ := nices (l := l) fun y hy => h y (List.mem_cons_of_mem _ hy)
    refine ⟨p :: ps, by simp only [pyDs, e1, e2], by simp only [PyData.showableAll, a1, b1, Bool.and_self], by simp only [PyData.leavesShortAll, a2, b2, Bool.and_self], ?_, ?_⟩
    · simp only [PyData.weightAll, List.length_cons]
      omega
    · simp only [PyData.depthAll]
      omega
theorem lst_wk {l : List D} (h : ∀ x ∈ l, skB x = true) (hl : l.length ≤ 200) : Wk (.lst l) := by
  obtain ⟨ps, e, h1, h2, h3, h4⟩ := nices h
  refine ⟨⟨rfl, fun x hx => ?_, by show l.length ≤ 1000; omega⟩, fun x hx => ?_, ?_⟩
  · have := h x hx
    unfold skB at this
    simp only [Bool.and_eq_true] at this
    exact this.1
  · have := h x hx
    unfold skB at this
    simp only [Bool.and_eq_true] at this
    exact this.2.1
  · unfold niceB
    have e2 : pyD (.lst l) = some (.list ps) := by simp only [pyD, e, Option.map_some]
    rw [e2]
    have hw : (PyData.list ps).weight ≤ 500000 := by
      simp only [PyData.weight]
      omega
    have hd : (PyData.list ps).depth ≤ 5 := by
      simp only [PyData.depth]
      omega
    have hs : (PyData.list ps).showable = true := by simp only [PyData.showable, h1]
    have hl : (PyData.list ps).leavesShort 13 = true := by simp only [PyData.leavesShort, h2]
    simp only [hs, hl, hw, hd, decide_true, Bool.and_self]
theorem repr_ok {d s : D} (h : Wk d) (hs : skB s = true) : ∃ t : Str, ∀ μ, oRepr [.tup [d, s]] μ = .ok (.str t) μ := by
  obtain ⟨p, e1, a1, a2, a3, a4⟩ := nice_ok h.rp
  unfold skB at hs
  simp only [Bool.and_eq_true] at hs
  obtain ⟨q, e2, b1, b2, b3, b4⟩ := nice_ok hs.2.2
  refine ⟨(PyData.tuple [p, q]).shown, fun μ => ?_⟩
  have e3 : pyD (.tup [d, s]) = some (.tuple [p, q]) := by simp only [pyD, pyDs, e1, e2, Option.map_some]
  have h1 : (PyData.tuple [p, q]).showable = true := by simp only [PyData.showable, PyData.showableAll, a1, b1, Bool.and_self]
  have h2 : (PyData.tuple [p, q]).leavesShort 13 = true := by simp only [PyData.leavesShort, PyData.leavesShortAll, a2, b2, Bool.and_self]
  have h3 : (PyData.tuple [p, q]).weight ≤ 2 ^ 20 := by
    simp only [PyData.weight, PyData.weightAll]
    omega
  have h4 : (PyData.tuple [p, q]).depth ≤ 64 := by
    simp only [PyData.depth, PyData.depthAll]
    omega
  have h5 := PyData.shown_fits (B := 13) (by decide) (by decide) h2 h3
  unfold oRepr
  simp only [e3]
  rw [if_pos (by simp only [isBox, h1, Bool.true_and, Bool.and_eq_true, decide_eq_true_eq]; exact ⟨h5, h4⟩)]
/-- fractions of small numbers -/
theorem log2_40 {i : Int} (h : i.natAbs < 1000000000000) : i.natAbs.log2 ≤ 40 := log2_le (by omega)
theorem fD_sk {y : Int × Int} (h1 : y.1.natAbs < 1000000000000) (h2 : y.2.natAbs < 1000000000000) : skB (fD y) = true := by
  have l1 := log2_40 h1
  have l2 := log2_40 h2
  have s1 := PyData.shown_int_le (i := y.1) (by omega)
  have s2 := PyData.shown_int_le (i := y.2) (by omega)
  have w1 : (PyData.int y.1).weight ≤ 41 := by
    simp only [PyData.weight]
    split <;> omega
  have w2 : (PyData.int y.2).weight ≤ 41 := by
    simp only [PyData.weight]
    split <;> omega
  have hn : niceB 3 1000 (fD y) = true := by
    unfold niceB
    have e : pyD (fD y) = some (.tuple [.int y.1, .int y.2]) := rfl
    rw [e]
    have hw : (PyData.tuple [.int y.1, .int y.2]).weight ≤ 1000 := by
      show PyData.weightAll _ ≤ _
      simp only [PyData.weightAll]
      omega
    have hd : (PyData.tuple [.int y.1, .int y.2]).depth ≤ 3 := by
      simp only [PyData.depth, PyData.depthAll]
      omega
    have hs : (PyData.tuple [.int y.1, .int y.2]).showable = true := by
      simp only [PyData.showable, PyData.showableAll, Bool.and_eq_true, decide_eq_true_eq, Bool.and_true]
      omega
    have hl : (PyData.tuple [.int y.1, .int y.2]).leavesShort 13 = true := by
      simp only [PyData.leavesShort, PyData.leavesShortAll, Bool.and_eq_true, decide_eq_true_eq, Bool.and_true]
      exact ⟨s1, s2⟩
    simp only [hs, hl, hw, hd, decide_true, Bool.and_self]
  have hm : sm (fD y) = true := by
    simp only [sm, Bool.and_eq_true, decide_eq_true_eq]
    omega
  unfold skB
  rw [hm, hn]
  rfl
theorem sk_rp {s : D} (h : skB s = true) : niceB 5 500000 s = true := by
  unfold skB at h
  simp only [Bool.and_eq_true] at h
  obtain ⟨p, e, a1, a2, a3, a4⟩ := nice_ok h.2.2
  unfold niceB
  rw [e]
  simp only [a1, a2, Bool.true_and, Bool.and_eq_true, decide_eq_true_eq]
  omega
theorem fD_wk {y : Int × Int} (h1 : y.1.natAbs < 1000000000000) (h2 : y.2.natAbs < 1000000000000) : Wk (fD y) :=
  ⟨⟨rfl, fun x hx => by
      simp only [itemsD, List.mem_cons, List.not_mem_nil, or_false] at hx
      rcases hx with rfl | rfl <;> rfl, (by decide : 2 ≤ 1000)⟩, fun x hx => by
      simp only [itemsD, List.mem_cons, List.not_mem_nil, or_false] at hx
      rcases hx with rfl | rfl <;> rfl, sk_rp (fD_sk h1 h2)⟩
/-! what the law draws -/
/-- a fraction that the law made -/
structure Small (y : Int × Int) : Prop where
  n : y.1.natAbs < 1000000000000
  d : y.2.natAbs < 1000000000000
theorem red_small {a b : Int} (hb : 0 < b) (h1 : a.natAbs < 1000000000000) (h2 : b.natAbs < 1000000000000) : Small (red a b) := by
  refine ⟨?_, ?_⟩
  · show (a / (Int.gcd a b : Int)).natAbs < _
    rw [Int.natAbs_ediv_of_dvd (Int.gcd_dvd_left a b)]
    exact Nat.lt_of_le_of_lt (Nat.div_le_self _ _) h1
  · show (b / (Int.gcd a b : Int)).natAbs < _
    rw [Int.natAbs_ediv_of_dvd (Int.gcd_dvd_right a b)]
    exact Nat.lt_of_le_of_lt (Nat.div_le_self _ _) h2
theorem some_ok {x : D} (hx : PotB x) (μ : Sto) : ∃ y z, m_w_some [.own μ.length] (st μ x) = .ok (fD y) (st μ z) ∧ Small y ∧ PotB z := by
  obtain ⟨r, x1, e1, r0, r1, p1⟩ := draw_ok hx (m := 2) (by decide) (by decide) μ
  have arg : ∀ (m : Int) (z : D), aC (eV 0) (aC (eC (.int m)) aN) [some (.own μ.length)] (st μ z) = .ok [.own μ.length, .int m] (st μ z) := fun _ _ => rfl
  have one : ∀ {f : FD} {z z2 : D} {r : Int}, f [some (.own μ.length)] (st μ z) = .ok (.int r) (st μ z2) → e2 oAdd (eC (.int 1)) f [some (.own μ.length)] (st μ z) = .ok (.int (1 + r)) (st μ z2) := fun h => (e2_ok (eCo _ _ _) h).trans (add_ok _ _ _)
  have lowp : ∀ {f g : FD} {z z2 z3 : D} {r s : Int}, f [some (.own μ.length)] (st μ z) = .ok (.int r) (st μ z2) → g [some (.own μ.length)] (st μ z2) = .ok (.int s) (st μ z3) → 0 ≤ r → 0 ≤ s → r < 999999999999 → s < 999999999999 → PotB z3 →
      ∃ y, eA m_w_low (aC (e2 oAdd (eC (.int 1)) f) (aC (e2 oAdd (eC (.int 1)) g) aN)) [some (.own μ.length)] (st μ z) = .ok (fD y) (st μ z3) ∧ Small y := fun {f g z z2 z3 r s} h1 h2 a0 b0 a1 b1 hp => by
    refine ⟨red (1 + r) (1 + s), ?_, red_small (by omega) (by omega) (by omega)⟩
    have h3 := (one h2)
    refine (eA_ok (aC_ok (one h1) (aC_ok h3 rfl))).trans ?_
    exact low_ok (q := 40) (by omega) (by omega) (by decide) _
  have hpow : e2 oSub (e2 oPow (eC (.int 10)) (eC (.int 12))) (eC (.int 1)) = e2 oSub (e2 oPow (eC (.int 10)) (eC (.int 12))) (eC (.int 1)) := rfl
  have hbig : ∀ z, e2 oSub (e2 oPow (eC (.int 10)) (eC (.int 12))) (eC (.int 1)) [some (.own μ.length)] (st μ z) = .ok (.int 999999999999) (st μ z) := fun z => by
    have hp : oPow (.int 10) (.int 12) (st μ z) = .ok (.int 1000000000000) (st μ z) := by
      simp [iI, cOf]
    exact (e2_ok ((e2_ok (eCo _ _ _) (eCo _ _ _)).trans hp) (eCo _ _ _)).trans (sub_ok _ _ _)
  have argB : ∀ z, aC (eV 0) (aC (e2 oSub (e2 oPow (eC (.int 10)) (eC (.int 12))) (eC (.int 1))) aN) [some (.own μ.length)] (st μ z) = .ok [.own μ.length, .int 999999999999] (st μ z) := fun z => aC_ok (d := .own μ.length) rfl (aC_ok (hbig z) rfl)
  have ht : tB (e2 (oEq false) (eA m_w_draw (aC (eV 0) (aC (eC (.int 2)) aN))) (eC (.int 0))) [some (.own μ.length)] (st μ x) = .ok (decide (r = 0)) (st μ x1) :=
    tB_ok ((e2_ok ((eA_ok (arg 2 x)).trans e1) (eCo _ _ _)).trans (eq_int _ _ _))
  by_cases k : r = 0
  · rw [decide_eq_true k] at ht
    obtain ⟨u, x2, e2', u0, u1, p2⟩ := draw_ok p1 (m := 40) (by decide) (by decide) μ
    obtain ⟨v, x3, e3, v0, v1, p3⟩ := draw_ok p2 (m := 12) (by decide) (by decide) μ
    obtain ⟨y, hy, sy⟩ := lowp ((eA_ok (arg 40 x1)).trans e2') ((eA_ok (arg 12 x2)).trans e3) u0 v0 (by omega) (by omega) p3
    refine ⟨y, x3, run_st ?_ rfl (by obtain ⟨a, b, rfl, _⟩ := p3.ex; exact lab_iL _), sy, p3⟩
    unfold b_w_some
    exact seq_rt ((if_tt ht).trans (ret_ok hy))
  · rw [decide_eq_false k] at ht
    obtain ⟨u, x2, e2', u0, u1, p2⟩ := draw_ok p1 (m := 999999999999) (by decide) (by decide) μ
    obtain ⟨v, x3, e3, v0, v1, p3⟩ := draw_ok p2 (m := 999999999999) (by decide) (by decide) μ
    obtain ⟨y, hy, sy⟩ := lowp ((eA_ok (argB x1)).trans e2') ((eA_ok (argB x2)).trans e3) u0 v0 (by omega) (by omega) p3
    refine ⟨y, x3, run_st ?_ rfl (by obtain ⟨a, b, rfl, _⟩ := p3.ex; exact lab_iL _), sy, p3⟩
    unfold b_w_some
    exact (seq_nx ((if_ff ht).trans rfl)).trans (ret_ok hy)
end Pk59
end

section
set_option Elab.async false
set_option linter.all false
set_option autoImplicit false
set_option maxRecDepth 100000
set_option maxHeartbeats 2000000
set_option exponentiation.threshold 3000
namespace Pk59
open PySem DL
theorem pot_lab {x : D} (h : PotB x) : lab x = 0 := by
  obtain ⟨a, b, rfl, _⟩ := h.ex
  exact lab_iL _
def odd1 : List D := [.tup [.int 0, .int 1], .tup [.int (-1), .int 2], .tup [.int 2, .int 4], .tup [.int 1, .int 0], .tup [.int 1, .int (-2)], .tup [.int (-1), .int (-2)], .tup [.bl true, .int 1], .tup [.int 1, .bl true], .tup [.int 1], .tup [.int 1, .int 2, .int 3], .lst [.int 1, .int 2], .str "1/2"]
def odd2 : List D := [.int 5, .int 1, .int 0, .non, .tup [], .dK [] [], .tup [.str "1", .int 2], .tup [.int 1, .non], .tup [.non, .int 1], .tup [.tup [.int 1, .int 1], .int 1], .tup [.int 0, .int 0], .bl true, .lst [], .tup [.int 3, .int 2], .tup [.int 1, .int 1]]
theorem odd_sk : (odd1 ++ odd2).all skB = true := by decide +kernel
theorem odd_lab : (odd1 ++ odd2).all (fun x => decide (lab x = 0)) = true := by decide +kernel
theorem at_mem {l : List D} {r : Int} (h0 : 0 ≤ r) (h1 : r < l.length) (μ : Sto) : ∃ x ∈ l, oIx (.lst l) (.int r) μ = .ok x μ := by
  have hl : r.toNat < l.length := by omega
  refine ⟨l[r.toNat], List.getElem_mem hl, ?_⟩
  have := atI_nat (List.getElem?_eq_getElem hl)
  rw [show ((r.toNat : Nat) : Int) = r by omega] at this
  show (match L2.atI l r with
    | some x => Res.ok x μ
    | none => .bad) = _
  rw [this]
theorem oddw_ok {x : D} (hx : PotB x) (μ : Sto) : ∃ y z, m_w_odd_weight [.own μ.length] (st μ x) = .ok y (st μ z) ∧ skB y = true ∧ lab y = 0 ∧ PotB z := by
  obtain ⟨r, x1, q1, r0, r1, p1⟩ := draw_ok hx (m := 27) (by decide) (by decide) μ
  obtain ⟨y, hy, q2⟩ := at_mem (l := odd1 ++ odd2) r0 (by simpa [odd1, odd2] using r1) (st μ x1)
  have l0 : lab y = 0 := by simpa using List.all_eq_true.mp odd_lab y hy
  refine ⟨y, x1, run_st ?_ l0 (pot_lab p1), List.all_eq_true.mp odd_sk y hy, l0, p1⟩
  unfold b_w_odd_weight
  refine (seq_nx (ρ1 := [some (.own μ.length), some (.lst odd1)]) (μ1 := st μ x) rfl).trans ((seq_nx (ρ1 := [some (.own μ.length), some (.lst (odd1 ++ odd2))]) (μ1 := st μ x) rfl).trans ?_)
  exact ret_ok ((e2_ok (d := .lst (odd1 ++ odd2)) rfl ((eA_ok (ds := [.own μ.length, .int 27]) rfl).trans q1)).trans q2)
def mix (w : D) : List D := [.non, .lst [], .tup [], .str "", .str "ab", .int 7, .bl true, .dK [] [], .dT [[.inl 1, .inl 1]] [.int 1], .tup [.int 1, .int 2], w, .lst [.lst []]]
theorem mix_wk : (mix (.non)).all wkB = true := by decide +kernel
theorem mix_lab : (mix (.non)).all (fun x => decide (lab x = 0)) = true := by decide +kernel
theorem mix_ok {w d : D} (hw : Wk w) (lw : lab w = 0) (h : d ∈ mix w) : Wk d ∧ lab d = 0 := by
  by_cases e : d = w
  · subst e
    exact ⟨hw, lw⟩
  · have hm : d ∈ mix .non := by
      simp only [mix, List.mem_cons, List.not_mem_nil, or_false] at h ⊢
      rcases h with h | h | h | h | h | h | h | h | h | h | h | h
      · exact .inl h
      · exact .inr (.inl h)
      · exact .inr (.inr (.inl h))
      · exact .inr (.inr (.inr (.inl h)))
      · exact .inr (.inr (.inr (.inr (.inl h))))
      · exact .inr (.inr (.inr (.inr (.inr (.inl h)))))
      · exact .inr (.inr (.inr (.inr (.inr (.inr (.inl h))))))
      · exact .inr (.inr (.inr (.inr (.inr (.inr (.inr (.inl h)))))))
      · exact .inr (.inr (.inr (.inr (.inr (.inr (.inr (.inr (.inl h))))))))
      · exact .inr (.inr (.inr (.inr (.inr (.inr (.inr (.inr (.inr (.inl h)))))))))
      · exact absurd h e
      · exact .inr (.inr (.inr (.inr (.inr (.inr (.inr (.inr (.inr (.inr (.inr h))))))))))
    exact ⟨wk_of (List.all_eq_true.mp mix_wk d hm), by simpa using List.all_eq_true.mp mix_lab d hm⟩
theorem cut_mem {α : Type} {l : List α} {lo hi : Option Int} {x : α} (h : x ∈ cutG l lo hi) : x ∈ l := List.mem_of_mem_drop (List.mem_of_mem_take h)
theorem cut_len {α : Type} (l : List α) (lo hi : Option Int) : (cutG l lo hi).length ≤ l.length := by
  unfold cutG
  rw [List.length_take, List.length_drop]
  omega
theorem labs_mem : ∀ {l : List D}, (∀ x ∈ l, lab x = 0) → labs l = 0
  | [], _ => rfl
  | x :: l, h => by
    show max (lab x) (labs l) = 0
    rw [h x List.mem_cons_self, labs_mem fun y hy => h y (List.mem_cons_of_mem _ hy)]
    rfl
theorem oddws_ok {x : D} (hx : PotB x) {ys : List (Int × Int)} (hy : ∀ y ∈ ys, Small y) (hl : ys.length ≤ 12) (hne : ys ≠ []) (μ : Sto) : ∃ d z, m_w_odd_weights [.own μ.length, .lst (ys.map fD)] (st μ x) = .ok d (st μ z) ∧ Wk d ∧ lab d = 0 ∧ PotB z := by
  have sk : ∀ q ∈ ys.map fD, skB q = true ∧ lab q = 0 := fun q hq => by
    obtain ⟨y, hy', rfl⟩ := List.mem_map.mp hq
    exact ⟨fD_sk (hy y hy').n (hy y hy').d, rfl⟩
  have hlen : 0 < ys.length := List.length_pos_iff.mpr hne
  obtain ⟨r, x1, q1, r0, r1, p1⟩ := draw_ok hx (m := (ys.length : Int)) (by omega) (by omega) μ
  obtain ⟨v, x2, q2, v0, v1, p2⟩ := draw_ok p1 (m := 4) (by decide) (by decide) μ
  have hln : oLen [.lst (ys.map fD)] (st μ x) = .ok (.int (ys.length : Int)) (st μ x) := by rw [len_lst, List.length_map]
  have s1 : sSet 2 (eA m_w_draw (aC (eV 0) (aC (eA oLen (aC (eV 1) aN)) aN))) [some (.own μ.length), some (.lst (ys.map fD)), none, none] (st μ x) = .nx [some (.own μ.length), some (.lst (ys.map fD)), some (.int r), none] (st μ x1) :=
    set_ok ((eA_ok (aC_ok (d := .own μ.length) rfl (aC_ok ((eA_ok (ds := [.lst (ys.map fD)]) rfl).trans hln) rfl))).trans q1)
  have s2 : sSet 3 (eA m_w_draw (aC (eV 0) (aC (eC (.int 4)) aN))) [some (.own μ.length), some (.lst (ys.map fD)), some (.int r), none] (st μ x1) = .nx [some (.own μ.length), some (.lst (ys.map fD)), some (.int r), some (.int v)] (st μ x2) :=
    set_ok ((eA_ok (ds := [.own μ.length, .int 4]) rfl).trans q2)
  have t1 : tB (e2 oLt (eV 3) (eC (.int 2))) [some (.own μ.length), some (.lst (ys.map fD)), some (.int r), some (.int v)] (st μ x2) = .ok (decide (v < 2)) (st μ x2) := tB_ok ((e2_ok (d := .int v) rfl (eCo _ _ _)).trans (lt_ok _ _ _))
  have t2 : tB (e2 (oEq false) (eV 3) (eC (.int 2))) [some (.own μ.length), some (.lst (ys.map fD)), some (.int r), some (.int v)] (st μ x2) = .ok (decide (v = 2)) (st μ x2) := tB_ok ((e2_ok (d := .int v) rfl (eCo _ _ _)).trans (eq_int _ _ _))
  by_cases k1 : v < 2
  · rw [decide_eq_true k1] at t1
    obtain ⟨o, x3, q3, o1, o2, p3⟩ := oddw_ok p2 μ
    have c1 : eSlice (eV 1) oNo (oSo (eV 2)) [some (.own μ.length), some (.lst (ys.map fD)), some (.int r), some (.int v)] (st μ x2) = .ok (.lst (cutG (ys.map fD) none (some r))) (st μ x2) := rfl
    have c2 : eA oLstN (aC (eA m_w_odd_weight (aC (eV 0) aN)) aN) [some (.own μ.length), some (.lst (ys.map fD)), some (.int r), some (.int v)] (st μ x2) = .ok (.lst [o]) (st μ x3) :=
      (eA_ok (aC_ok ((eA_ok (ds := [.own μ.length]) rfl).trans q3) rfl)).trans rfl
    have c3 : eSlice (eV 1) (oSo (e2 oAdd (eV 2) (eC (.int 1)))) oNo [some (.own μ.length), some (.lst (ys.map fD)), some (.int r), some (.int v)] (st μ x3) = .ok (.lst (cutG (ys.map fD) (some (r + 1)) none)) (st μ x3) := rfl
    have n1 := cut_len (ys.map fD) none (some r)
    have n2 := cut_len (ys.map fD) (some (r + 1)) none
    rw [List.length_map] at n1 n2
    have a1 : oAdd (.lst (cutG (ys.map fD) none (some r))) (.lst [o]) (st μ x3) = .ok (.lst (cutG (ys.map fD) none (some r) ++ [o])) (st μ x3) := by
      simp only [oAdd, cOf]
      rw [if_pos (by simp; omega)]
    have a2 : oAdd (.lst (cutG (ys.map fD) none (some r) ++ [o])) (.lst (cutG (ys.map fD) (some (r + 1)) none)) (st μ x3) = .ok (.lst (cutG (ys.map fD) none (some r) ++ [o] ++ cutG (ys.map fD) (some (r + 1)) none)) (st μ x3) := by
      simp only [oAdd, cOf]
      rw [if_pos (by simp; omega)]
    have mem : ∀ q ∈ cutG (ys.map fD) none (some r) ++ [o] ++ cutG (ys.map fD) (some (r + 1)) none, skB q = true ∧ lab q = 0 := fun q hq => by
      rcases List.mem_append.mp hq with hq | hq
      · rcases List.mem_append.mp hq with hq | hq
        · exact sk q (cut_mem hq)
        · rw [List.mem_singleton] at hq
          subst hq
          exact ⟨o1, o2⟩
      · exact sk q (cut_mem hq)
    have l0 : lab (.lst (cutG (ys.map fD) none (some r) ++ [o] ++ cutG (ys.map fD) (some (r + 1)) none)) = 0 := labs_mem fun q hq => (mem q hq).2
    refine ⟨_, x3, run_st ?_ l0 (pot_lab p3), lst_wk (fun q hq => (mem q hq).1) (by simp; omega), l0, p3⟩
    unfold b_w_odd_weights
    refine (seq_nx s1).trans ((seq_nx s2).trans (seq_rt ((if_tt t1).trans (ret_ok ?_))))
    exact (e2_ok ((e2_ok c1 c2).trans a1) c3).trans a2
  · rw [decide_eq_false k1] at t1
    by_cases k2 : v = 2
    · rw [decide_eq_true k2] at t2
      have c1 : eRep (eV 1) (eC (.int 12)) [some (.own μ.length), some (.lst (ys.map fD)), some (.int r), some (.int v)] (st μ x2) = .ok (.lst (List.replicate 12 (ys.map fD)).flatten) (st μ x2) := by
        have e : eV 1 [some (.own μ.length), some (.lst (ys.map fD)), some (.int r), some (.int v)] (st μ x2) = .ok (.lst (ys.map fD)) (st μ x2) := rfl
        unfold eRep
        rw [e]
        simp only [Res.bind, eCo, cOf]
        rw [if_pos ⟨by decide, by decide, by rw [List.length_map]; show ys.length * 12 ≤ _; omega⟩]
        rfl
      have nf : (List.replicate 12 (ys.map fD)).flatten.length = 12 * ys.length := by
        simp
        omega
      have c2 : eA oLstN (aC (eA oTupN (aC (eC (.int 1)) (aC (eC (.int 1)) aN))) aN) [some (.own μ.length), some (.lst (ys.map fD)), some (.int r), some (.int v)] (st μ x2) = .ok (.lst [fD (1, 1)]) (st μ x2) := rfl
      have a1 : oAdd (.lst (List.replicate 12 (ys.map fD)).flatten) (.lst [fD (1, 1)]) (st μ x2) = .ok (.lst ((List.replicate 12 (ys.map fD)).flatten ++ [fD (1, 1)])) (st μ x2) := by
        simp only [oAdd, cOf]
        rw [if_pos (by rw [nf]; simp; omega)]
      have mem : ∀ q ∈ (List.replicate 12 (ys.map fD)).flatten ++ [fD (1, 1)], skB q = true ∧ lab q = 0 := fun q hq => by
        rcases List.mem_append.mp hq with hq | hq
        · obtain ⟨l, h1, h2⟩ := List.mem_flatten.mp hq
          rw [(List.mem_replicate.mp h1).2] at h2
          exact sk q h2
        · rw [List.mem_singleton] at hq
          subst hq
          exact ⟨fD_sk (y := (1, 1)) (by decide) (by decide), rfl⟩
      have l0 : lab (.lst ((List.replicate 12 (ys.map fD)).flatten ++ [fD (1, 1)])) = 0 := labs_mem fun q hq => (mem q hq).2
      refine ⟨_, x2, run_st ?_ l0 (pot_lab p2), lst_wk (fun q hq => (mem q hq).1) (by rw [List.length_append, nf]; simp; omega), l0, p2⟩
      unfold b_w_odd_weights
      refine (seq_nx s1).trans ((seq_nx s2).trans ((seq_nx ((if_ff t1).trans rfl)).trans (seq_rt ((if_tt t2).trans (ret_ok ?_)))))
      exact (e2_ok c1 c2).trans a1
    · rw [decide_eq_false k2] at t2
      obtain ⟨u, x3, q3, u0, u1, p3⟩ := draw_ok p2 (m := 12) (by decide) (by decide) μ
      obtain ⟨y0, yr, rfl⟩ := List.exists_cons_of_ne_nil hne
      obtain ⟨d, hd, q4⟩ := at_mem (l := mix (fD y0)) u0 (by simpa [mix] using u1) (st μ x3)
      have sy := hy y0 List.mem_cons_self
      obtain ⟨wd, ld⟩ := mix_ok (fD_wk sy.n sy.d) rfl hd
      have c1 : eA oLstN (aC (eC .non) (aC (eA oLstN aN) (aC (eA oTupN aN) (aC (eC (.str "")) (aC (eC (.str "ab")) (aC (eC (.int 7)) (aC (eC (.bl true)) (aC (eC (.dK [] [])) (aC (eDisp1 (aC (eC (.int 1)) (aC (eC (.int 1)) aN)) (eC (.int 1))) (aC (eA oTupN (aC (eC (.int 1)) (aC (eC (.int 2)) aN))) (aC (e2 oIx (eV 1) (eC (.int 0))) (aC (eA oLstN (aC (eA oLstN aN) aN)) aN)))))))))))) [some (.own μ.length), some (.lst ((y0 :: yr).map fD)), some (.int r), some (.int v)] (st μ x2) = .ok (.lst (mix (fD y0))) (st μ x2) := by
        have h0 : e2 oIx (eV 1) (eC (.int 0)) [some (.own μ.length), some (.lst ((y0 :: yr).map fD)), some (.int r), some (.int v)] (st μ x2) = .ok (fD y0) (st μ x2) := by
          refine (e2_ok (d := .lst ((y0 :: yr).map fD)) rfl (eCo _ _ _)).trans ?_
          have : L2.atI ((y0 :: yr).map fD) ((0 : Nat) : Int) = some (fD y0) := atI_nat rfl
          show (match L2.atI ((y0 :: yr).map fD) 0 with
            | some x => Res.ok x _
            | none => .bad) = _
          rw [show (0 : Int) = ((0 : Nat) : Int) from rfl, this]
        refine (eA_ok (ds := mix (fD y0)) ?_).trans rfl
        exact aC_ok (eCo _ _ _) (aC_ok (d := .lst []) rfl (aC_ok (d := .tup []) rfl (aC_ok (eCo _ _ _) (aC_ok (eCo _ _ _) (aC_ok (eCo _ _ _) (aC_ok (eCo _ _ _) (aC_ok (eCo _ _ _) (aC_ok (d := .dT [[.inl 1, .inl 1]] [.int 1]) rfl (aC_ok (d := .tup [.int 1, .int 2]) rfl (aC_ok h0 (aC_ok (d := .lst [.lst []]) rfl rfl)))))))))))
      refine ⟨d, x3, run_st ?_ ld (pot_lab p3), wd, ld, p3⟩
      unfold b_w_odd_weights
      refine (seq_nx s1).trans ((seq_nx s2).trans ((seq_nx ((if_ff t1).trans rfl)).trans ((seq_nx ((if_ff t2).trans rfl)).trans (ret_ok ?_))))
      exact (e2_ok c1 ((eA_ok (ds := [.own μ.length, .int 12]) rfl).trans q3)).trans q4
end Pk59
end

section
set_option Elab.async false
set_option linter.all false
set_option autoImplicit false
set_option maxRecDepth 100000
set_option maxHeartbeats 2000000
set_option exponentiation.threshold 3000
namespace Pk59
open PySem DL
theorem ne_str (a b : Str) (μ : Sto) : oEq true (.str a) (.str b) μ = .ok (.bl (!decide (a = b))) μ := rfl
theorem cell_ok (ns : List Int) {i : Int} (h0 : 0 ≤ i) (μ : Sto) : ∃ c, m_w_cell [.frl (ns.map .int), .int i] μ = .ok (.int c) μ := by
  have hl : oLen [.frl (ns.map .int)] μ = .ok (.int (ns.length : Int)) μ := by
    show Res.ok (D.int (((ns.map D.int).length : Nat) : Int)) μ = _
    rw [List.length_map]
  have ht : tB (e2 oLt (eV 1) (eA oLen (aC (eV 0) aN))) [some (.frl (ns.map .int)), some (.int i)] μ = .ok (decide (i < ns.length)) μ := tB_ok ((e2_ok (d := .int i) rfl ((eA_ok (ds := [.frl (ns.map .int)]) rfl).trans hl)).trans (lt_ok _ _ _))
  by_cases k : i < ns.length
  · rw [decide_eq_true k] at ht
    have hn : i.toNat < ns.length := by omega
    refine ⟨ns[i.toNat], run_rt (ret_ok ?_) (Nat.zero_le _)⟩
    unfold eIf
    show (Res.bind (tB (e2 oLt (eV 1) (eA oLen (aC (eV 0) aN))) [some (.frl (ns.map .int)), some (.int i)] μ) _) = _
    rw [ht]
    show e2 oIx (eV 0) (eV 1) [some (.frl (ns.map .int)), some (.int i)] μ = _
    refine (e2_ok (f := eV 0) (g := eV 1) (ρ := [some (.frl (ns.map .int)), some (.int i)]) (μ := μ) (d := .frl (ns.map .int)) (e := .int i) (μ1 := μ) (μ2 := μ) rfl rfl).trans ?_
    have : L2.atI (ns.map D.int) ((i.toNat : Nat) : Int) = some (.int ns[i.toNat]) := atI_nat (by rw [List.getElem?_map, List.getElem?_eq_getElem hn]; rfl)
    rw [show ((i.toNat : Nat) : Int) = i by omega] at this
    show (match L2.atI (ns.map D.int) i with
      | some x => Res.ok x μ
      | none => .bad) = _
    rw [this]
  · rw [decide_eq_false k] at ht
    refine ⟨0, run_rt (ret_ok ?_) (Nat.zero_le _)⟩
    unfold eIf
    show (Res.bind (tB (e2 oLt (eV 1) (eA oLen (aC (eV 0) aN))) [some (.frl (ns.map .int)), some (.int i)] μ) _) = _
    rw [ht]
    rfl
theorem pot_ok (c : Int) (μ : Sto) : ∃ x, m_w_pot [.int c] μ = .ok x μ ∧ PotB x := by
  have hp : oPow (.int 10) (.int 18) μ = .ok (.int 1000000000000000000) μ := by simp [iI, cOf]
  have a1 : eA oMax2 (aC (eC (.int 0)) (aC (e2 oSub (eV 0) (e2 oPow (eC (.int 10)) (eC (.int 18)))) aN)) [some (.int c)] μ = .ok (.int (if c - 1000000000000000000 > 0 then c - 1000000000000000000 else 0)) μ := by
    refine (eA_ok (aC_ok (eCo _ _ _) (aC_ok ((e2_ok (d := .int c) rfl ((e2_ok (eCo _ _ _) (eCo _ _ _)).trans hp)).trans (sub_ok _ _ _)) rfl))).trans ?_
    rfl
  have v0 : 0 ≤ (c % 2147483629 * 48271 + 7919) % 2147483647 := Int.emod_nonneg _ (by decide)
  have v1 : (c % 2147483629 * 48271 + 7919) % 2147483647 < 2147483647 := Int.emod_lt_of_pos _ (by decide)
  have u0 : 0 ≤ c % 2147483629 := Int.emod_nonneg _ (by decide)
  have u1 : c % 2147483629 < 2147483629 := Int.emod_lt_of_pos _ (by decide)
  have a2 : e2 oMod (e2 oAdd (e2 oMul (e2 oMod (eV 0) (eC (.int 2147483629))) (eC (.int 48271))) (eC (.int 7919))) (eC (.int 2147483647)) [some (.int c)] μ = .ok (.int ((c % 2147483629 * 48271 + 7919) % 2147483647)) μ := by
    have m1 := mul_ok (i := c % 2147483629) (j := 48271) (p := 31) (q := 16) (by omega) (by decide) (by decide) μ
    exact (e2_ok ((e2_ok ((e2_ok ((e2_ok (d := .int c) rfl (eCo _ _ _)).trans (mod_ok (by decide) _)) (eCo _ _ _)).trans m1) (eCo _ _ _)).trans (add_ok _ _ _)) (eCo _ _ _)).trans (mod_ok (by decide) _)
  refine ⟨iL [if c - 1000000000000000000 > 0 then c - 1000000000000000000 else 0, (c % 2147483629 * 48271 + 7919) % 2147483647], ?_, ⟨_, _, rfl, by split <;> omega, v0, by omega⟩⟩
  have hr := runF_rt (n := 1) (g := b_w_pot) (ds := [.int c]) (μ := μ) (m := μ.length) (μ' := st μ (iL [if c - 1000000000000000000 > 0 then c - 1000000000000000000 else 0, (c % 2147483629 * 48271 + 7919) % 2147483647])) (by
    refine ret_ok ?_
    unfold eOwn
    have e : eA oLstN (aC (eA oMax2 (aC (eC (.int 0)) (aC (e2 oSub (eV 0) (e2 oPow (eC (.int 10)) (eC (.int 18)))) aN))) (aC (e2 oMod (e2 oAdd (e2 oMul (e2 oMod (eV 0) (eC (.int 2147483629))) (eC (.int 48271))) (eC (.int 7919))) (eC (.int 2147483647))) aN)) [some (.int c)] μ = .ok (iL [if c - 1000000000000000000 > 0 then c - 1000000000000000000 else 0, (c % 2147483629 * 48271 + 7919) % 2147483647]) μ := (eA_ok (aC_ok a1 (aC_ok a2 rfl))).trans rfl
    show (Res.bind (eA oLstN _ [some (.int c)] μ) _) = _
    rw [e]
    rfl) (st_get _ _) (by rw [lab_iL]; exact Nat.zero_le _) (Nat.le_refl _) (kept_app _ _)
  rw [take_app] at hr
  exact hr
theorem lcL_step {tg : Tg} {vs : List Nat} {tt : DL.Env → Sto → Res Bool} {te : FD} {kp : Kp} {ρ ρ1 : DL.Env} {d y : D} {ds acc : List D} {μ μ2 : Sto} (h1 : tg d (wipeE ρ vs) μ = some ρ1) (h2 : tt ρ1 μ = .ok true μ) (h3 : te ρ1 μ = .ok y μ2) (hk : kpOk kp μ2) (hl : acc.length < 16777216) :
    lcL tg vs tt te kp ρ (d :: ds) μ acc = lcL tg vs tt te kp ρ ds μ2 (acc ++ [y]) := by
  rw [lcL, h1]
  simp only
  rw [h2]
  simp only [if_true]
  rw [h3]
  simp only
  rw [if_pos ⟨hk, hl⟩]
theorem some_lc {ρ : DL.Env} {μ : Sto} (hρ : ∀ d : D, ((wipeE ρ [4]).set 4 (some d))[2]? = some (some (.own μ.length))) : ∀ (ds : List D) (x : D) (acc : List D), PotB x → acc.length + ds.length ≤ 16777216 →
    ∃ (ys : List (Int × Int)) (z : D), lcL (gN 4) [4] tTrue (eA m_w_some (aC (eV 2) aN)) none ρ ds (st μ x) acc = .ok (.lst (acc ++ ys.map fD)) (st μ z) ∧ (∀ y ∈ ys, Small y) ∧ ys.length = ds.length ∧ PotB z
  | [], x, acc, hx, _ => ⟨[], x, by simp [lcL], fun _ h => (nomatch h), rfl, hx⟩
  | d :: ds, x, acc, hx, hl => by
    obtain ⟨y, z1, q1, sy, p1⟩ := some_ok hx μ
    rw [List.length_cons] at hl
    obtain ⟨ys, z, q2, sys, ly, pz⟩ := some_lc hρ ds z1 (acc ++ [fD y]) p1 (by simp; omega)
    refine ⟨y :: ys, z, ?_, fun w hw => ?_, by simp [ly], pz⟩
    · have ev : eV 2 ((wipeE ρ [4]).set 4 (some d)) (st μ x) = .ok (.own μ.length) (st μ x) := by
        unfold eV
        rw [hρ d]
      have ee : eA m_w_some (aC (eV 2) aN) ((wipeE ρ [4]).set 4 (some d)) (st μ x) = .ok (fD y) (st μ z1) := (eA_ok (aC_ok ev rfl)).trans q1
      rw [lcL_step (tg := gN 4) (vs := [4]) (tt := tTrue) (kp := none) (acc := acc) (ρ1 := (wipeE ρ [4]).set 4 (some d)) rfl rfl ee trivial (by omega), q2, List.append_assoc]
      rfl
    · rcases List.mem_cons.mp hw with rfl | hw
      · exact sy
      · exact sys w hw
theorem in_of {d s : D} (h : Wk d) (hs : skB s = true) : In d s := by
  unfold skB at hs
  simp only [Bool.and_eq_true] at hs
  exact ⟨h.gd, hs.1, h.sd, hs.2.1⟩
/-- the five ways -/
theorem inner {scr o1 o2 o4 : Option D} {d s : D} (h : Wk d) (hs : skB s = true) {t o : Str} (ht : ∀ μ, oRepr [.tup [d, s]] μ = .ok (.str t) μ) (hw : ∀ w : Int, 0 ≤ w → w < 5 → (w ≠ 2 ∨ o ≠ "made") → ∀ μ, m_w_told [.int w, d, s] μ = .ok (.str o) μ) (o8 : Option D) (μ : Sto) :
    ∃ o8', sFor (fiRng (aC (eC (.int 5)) aN)) (gN 8) (sIf (tOr (tB (e2 (oEq true) (eV 8) (eC (.int 2)))) (tB (e2 (oEq true) (eV 7) (eC (.str "made"))))) (sIf (tOr (tB (e2 (oEq true) (eA m_w_told (aC (eV 8) (aC (eV 3) (aC (eV 5) aN)))) (eV 7))) (tB (e2 (oEq true) (eA oRepr (aC (eA oTupN (aC (eV 3) (aC (eV 5) aN))) aN)) (eV 6)))) (sRet (eC (.bl false))) sNx) sNx) [scr, o1, o2, some d, o4, some s, some (.str t), some (.str o), o8] μ = .nx [scr, o1, o2, some d, o4, some s, some (.str t), some (.str o), o8'] μ := by
  obtain ⟨ρ', q1, o8', hq⟩ := for_pure (tg := gN 8) (g := sIf (tOr (tB (e2 (oEq true) (eV 8) (eC (.int 2)))) (tB (e2 (oEq true) (eV 7) (eC (.str "made"))))) (sIf (tOr (tB (e2 (oEq true) (eA m_w_told (aC (eV 8) (aC (eV 3) (aC (eV 5) aN)))) (eV 7))) (tB (e2 (oEq true) (eA oRepr (aC (eA oTupN (aC (eV 3) (aC (eV 5) aN))) aN)) (eV 6)))) (sRet (eC (.bl false))) sNx) sNx) (μ := μ)
    (fun _ ρ => ∃ o8, ρ = [scr, o1, o2, some d, o4, some s, some (.str t), some (.str o), o8]) (rngD 0 5) none trivial [scr, o1, o2, some d, o4, some s, some (.str t), some (.str o), o8] ⟨o8, rfl⟩ (by
    rintro i x ρ hx ⟨o8, rfl⟩
    have hi : i < 5 := by
      have := (List.getElem?_eq_some_iff.mp hx).1
      simpa [rngD] using this
    have hx' : x = .int (i : Int) := by
      unfold rngD at hx
      rw [List.getElem?_map, List.getElem?_range hi] at hx
      simp at hx
      exact hx.symm
    subst hx'
    refine ⟨[scr, o1, o2, some d, o4, some s, some (.str t), some (.str o), some (.int (i : Int))], [scr, o1, o2, some d, o4, some s, some (.str t), some (.str o), some (.int (i : Int))], rfl, ?_, _, rfl⟩
    have t1 : tB (e2 (oEq true) (eV 8) (eC (.int 2))) [scr, o1, o2, some d, o4, some s, some (.str t), some (.str o), some (.int (i : Int))] μ = .ok (!decide ((i : Int) = 2)) μ := tB_ok ((e2_ok (d := .int (i : Int)) rfl (eCo _ _ _)).trans (ne_int _ _ _))
    have t2 : tB (e2 (oEq true) (eV 7) (eC (.str "made"))) [scr, o1, o2, some d, o4, some s, some (.str t), some (.str o), some (.int (i : Int))] μ = .ok (!decide (o = "made")) μ := tB_ok ((e2_ok (d := .str o) rfl (eCo _ _ _)).trans (ne_str _ _ _))
    have fin : ((i : Int) ≠ 2 ∨ o ≠ "made") → sIf (tOr (tB (e2 (oEq true) (eA m_w_told (aC (eV 8) (aC (eV 3) (aC (eV 5) aN)))) (eV 7))) (tB (e2 (oEq true) (eA oRepr (aC (eA oTupN (aC (eV 3) (aC (eV 5) aN))) aN)) (eV 6)))) (sRet (eC (.bl false))) sNx [scr, o1, o2, some d, o4, some s, some (.str t), some (.str o), some (.int (i : Int))] μ = .nx [scr, o1, o2, some d, o4, some s, some (.str t), some (.str o), some (.int (i : Int))] μ := fun hc => by
      have b1 : tB (e2 (oEq true) (eA m_w_told (aC (eV 8) (aC (eV 3) (aC (eV 5) aN)))) (eV 7)) [scr, o1, o2, some d, o4, some s, some (.str t), some (.str o), some (.int (i : Int))] μ = .ok false μ := by
        refine tB_ok ((e2_ok ((eA_ok (ds := [.int (i : Int), d, s]) rfl).trans (hw i (by omega) (by omega) hc μ)) (e := .str o) rfl).trans ?_)
        rw [ne_str]
        simp
      have b2 : tB (e2 (oEq true) (eA oRepr (aC (eA oTupN (aC (eV 3) (aC (eV 5) aN))) aN)) (eV 6)) [scr, o1, o2, some d, o4, some s, some (.str t), some (.str o), some (.int (i : Int))] μ = .ok false μ := by
        refine tB_ok ((e2_ok ((eA_ok (ds := [.tup [d, s]]) rfl).trans (ht μ)) (e := .str t) rfl).trans ?_)
        rw [ne_str]
        simp
      refine (if_ff ?_).trans rfl
      unfold tOr
      rw [b1]
      exact b2
    by_cases k1 : (i : Int) = 2
    · rw [k1] at t1
      by_cases k2 : o = "made"
      · rw [decide_eq_true k2] at t2
        refine (if_ff ?_).trans rfl
        unfold tOr
        rw [k1] at t2 ⊢
        rw [t1]
        exact t2
      · rw [decide_eq_false k2] at t2
        refine (if_tt ?_).trans (fin (.inr k2))
        unfold tOr
        rw [k1] at t2 ⊢
        rw [t1]
        exact t2
    · rw [decide_eq_false k1] at t1
      refine (if_tt ?_).trans (fin (.inl k1))
      unfold tOr
      rw [t1]
      rfl)
  subst hq
  exact ⟨o8', (for_eq (ds := rngD 0 5) (kp := none) (μ1 := μ) rfl).trans q1⟩
noncomputable abbrev turn : FS := (sSeq (sSet 2 (eOwn (eA m_w_pot (aC (eA m_w_cell (aC (eV 0) (aC (eV 1) aN))) aN))))
   (sSeq (sSet 3 (eLc (fiRng (aC (e2 oAdd (eC (.int 1)) (eA m_w_draw (aC (eV 2) (aC (eC (.int 12)) aN)))) aN)) (gN 4) [4] tTrue (eA m_w_some (aC (eV 2) aN))))
   (sSeq (sSet 5 (e2 oIx (eA oLstN (aC (eA m_w_some (aC (eV 2) aN)) (aC (eA m_w_some (aC (eV 2) aN)) (aC (eA oTupN (aC (e2 oSub (e2 oPow (eC (.int 10)) (eC (.int 12))) (eC (.int 1))) (aC (eC (.int 1)) aN))) aN)))) (eA m_w_draw (aC (eV 2) (aC (eC (.int 3)) aN)))))
   (sSeq (sIf (tB (e2 (oEq false) (eA m_w_draw (aC (eV 2) (aC (eC (.int 3)) aN))) (eC (.int 0)))) (sSet 3 (eA m_w_odd_weights (aC (eV 2) (aC (eV 3) aN)))) sNx)
   (sSeq (sIf (tB (e2 (oEq false) (eA m_w_draw (aC (eV 2) (aC (eC (.int 3)) aN))) (eC (.int 0)))) (sSet 5 (eA m_w_odd_weight (aC (eV 2) aN))) sNx)
   (sSeq (sSet 6 (eA oRepr (aC (eA oTupN (aC (eV 3) (aC (eV 5) aN))) aN)))
   (sSeq (sSet 7 (eA m_w_due (aC (eV 3) (aC (eV 5) aN))))
   (sFor (fiRng (aC (eC (.int 5)) aN)) (gN 8) (sIf (tOr (tB (e2 (oEq true) (eV 8) (eC (.int 2)))) (tB (e2 (oEq true) (eV 7) (eC (.str "made"))))) (sIf (tOr (tB (e2 (oEq true) (eA m_w_told (aC (eV 8) (aC (eV 3) (aC (eV 5) aN)))) (eV 7))) (tB (e2 (oEq true) (eA oRepr (aC (eA oTupN (aC (eV 3) (aC (eV 5) aN))) aN)) (eV 6)))) (sRet (eC (.bl false))) sNx) sNx)))))))))
def big : D := .tup [.int 999999999999, .int 1]
theorem big_sk : skB big = true := fD_sk (y := (999999999999, 1)) (show (999999999999 : Int).natAbs < 1000000000000 by omega) (show (1 : Int).natAbs < 1000000000000 by omega)
theorem big_ok (ρ : DL.Env) (m : Sto) : eA oTupN (aC (e2 oSub (e2 oPow (eC (.int 10)) (eC (.int 12))) (eC (.int 1))) (aC (eC (.int 1)) aN)) ρ m = .ok big m := by
  have hp : oPow (.int 10) (.int 12) m = .ok (.int 1000000000000) m := by simp [iI, cOf]
  have h1 : e2 oSub (e2 oPow (eC (.int 10)) (eC (.int 12))) (eC (.int 1)) ρ m = .ok (.int (1000000000000 - 1)) m := (e2_ok ((e2_ok (eCo _ _ _) (eCo _ _ _)).trans hp) (eCo _ _ _)).trans (sub_ok _ _ _)
  have h2 : (1000000000000 - 1 : Int) = 999999999999 := by omega
  rw [h2] at h1
  exact (eA_ok (aC_ok h1 (aC_ok (eCo _ _ _) rfl))).trans (tup2 _ _ _)
theorem turn_ok (ns : List Int) {i : Int} (h0 : 0 ≤ i) (o2 o3 o4 o5 o6 o7 o8 : Option D) (μ : Sto) : ∃ (p2 p3 p4 p5 p6 p7 p8 : Option D) (μ' : Sto), turn [some (.frl (ns.map .int)), some (.int i), o2, o3, o4, o5, o6, o7, o8] μ = .nx [some (.frl (ns.map .int)), some (.int i), p2, p3, p4, p5, p6, p7, p8] μ' := by
  obtain ⟨c, hc⟩ := cell_ok ns h0 μ
  obtain ⟨x, hp, px⟩ := pot_ok c μ
  have s1 : sSet 2 (eOwn (eA m_w_pot (aC (eA m_w_cell (aC (eV 0) (aC (eV 1) aN))) aN))) [some (.frl (ns.map .int)), some (.int i), o2, o3, o4, o5, o6, o7, o8] μ = .nx [some (.frl (ns.map .int)), some (.int i), some (.own μ.length), o3, o4, o5, o6, o7, o8] (st μ x) := by
    have e : eA m_w_pot (aC (eA m_w_cell (aC (eV 0) (aC (eV 1) aN))) aN) [some (.frl (ns.map .int)), some (.int i), o2, o3, o4, o5, o6, o7, o8] μ = .ok x μ := (eA_ok (aC_ok ((eA_ok (ds := [.frl (ns.map .int), .int i]) rfl).trans hc) rfl)).trans hp
    refine set_ok (d := .own μ.length) ?_
    unfold eOwn
    rw [e]
    rfl
  obtain ⟨r, x1, q1, r0, r1, p1⟩ := draw_ok px (m := 12) (by decide) (by decide) μ
  obtain ⟨ys, x2, q2, sys, ly, p2⟩ := some_lc (ρ := [some (.frl (ns.map .int)), some (.int i), some (.own μ.length), o3, o4, o5, o6, o7, o8]) (μ := μ) (fun d => rfl) (rngD 0 (1 + r).toNat) x1 [] p1 (by simp [rngD]; omega)
  have ly2 : ys.length = (1 + r).toNat := by rw [ly]; simp [rngD]
  have s2 : sSet 3 (eLc (fiRng (aC (e2 oAdd (eC (.int 1)) (eA m_w_draw (aC (eV 2) (aC (eC (.int 12)) aN)))) aN)) (gN 4) [4] tTrue (eA m_w_some (aC (eV 2) aN))) [some (.frl (ns.map .int)), some (.int i), some (.own μ.length), o3, o4, o5, o6, o7, o8] (st μ x) = .nx [some (.frl (ns.map .int)), some (.int i), some (.own μ.length), some (.lst (ys.map fD)), o4, o5, o6, o7, o8] (st μ x2) := by
    have e : aC (e2 oAdd (eC (.int 1)) (eA m_w_draw (aC (eV 2) (aC (eC (.int 12)) aN)))) aN [some (.frl (ns.map .int)), some (.int i), some (.own μ.length), o3, o4, o5, o6, o7, o8] (st μ x) = .ok [.int (1 + r)] (st μ x1) := aC_ok ((e2_ok (eCo _ _ _) ((eA_ok (ds := [.own μ.length, .int 12]) rfl).trans q1)).trans (add_ok _ _ _)) rfl
    refine set_ok ?_
    unfold eLc fiRng
    rw [e]
    simp only [Res.bind]
    rw [if_pos (by omega)]
    exact q2
  obtain ⟨y1, x3, q3, sy1, p3⟩ := some_ok p2 μ
  obtain ⟨y2, x4, q4, sy2, p4⟩ := some_ok p3 μ
  obtain ⟨r5, x5, q5, r50, r51, p5⟩ := draw_ok p4 (m := 3) (by decide) (by decide) μ
  obtain ⟨s, hs, q6⟩ := at_mem (l := [fD y1, fD y2, big]) r50 (by simpa using r51) (st μ x5)
  have sks : skB s = true := by
    simp only [List.mem_cons, List.not_mem_nil, or_false] at hs
    rcases hs with rfl | rfl | rfl
    · exact fD_sk sy1.n sy1.d
    · exact fD_sk sy2.n sy2.d
    · exact big_sk
  have s3 : sSet 5 (e2 oIx (eA oLstN (aC (eA m_w_some (aC (eV 2) aN)) (aC (eA m_w_some (aC (eV 2) aN)) (aC (eA oTupN (aC (e2 oSub (e2 oPow (eC (.int 10)) (eC (.int 12))) (eC (.int 1))) (aC (eC (.int 1)) aN))) aN)))) (eA m_w_draw (aC (eV 2) (aC (eC (.int 3)) aN)))) [some (.frl (ns.map .int)), some (.int i), some (.own μ.length), some (.lst (ys.map fD)), o4, o5, o6, o7, o8] (st μ x2) = .nx [some (.frl (ns.map .int)), some (.int i), some (.own μ.length), some (.lst (ys.map fD)), o4, some s, o6, o7, o8] (st μ x5) := by
    refine set_ok ((e2_ok (d := .lst [fD y1, fD y2, big]) ?_ ((eA_ok (ds := [.own μ.length, .int 3]) rfl).trans q5)).trans q6)
    exact (eA_ok (ds := [fD y1, fD y2, big]) (aC_ok ((eA_ok (ds := [.own μ.length]) rfl).trans q3) (aC_ok ((eA_ok (ds := [.own μ.length]) rfl).trans q4) (aC_ok (big_ok _ _) rfl)))).trans rfl
  obtain ⟨r6, x6, q7, r60, r61, p6⟩ := draw_ok p5 (m := 3) (by decide) (by decide) μ
  have wl : Wk (.lst (ys.map fD)) := lst_wk (fun q hq => by
    obtain ⟨y, hy, rfl⟩ := List.mem_map.mp hq
    exact fD_sk (sys y hy).n (sys y hy).d) (by rw [List.length_map]; omega)
  have s4 : ∃ (d : D) (x7 : D), sIf (tB (e2 (oEq false) (eA m_w_draw (aC (eV 2) (aC (eC (.int 3)) aN))) (eC (.int 0)))) (sSet 3 (eA m_w_odd_weights (aC (eV 2) (aC (eV 3) aN)))) sNx [some (.frl (ns.map .int)), some (.int i), some (.own μ.length), some (.lst (ys.map fD)), o4, some s, o6, o7, o8] (st μ x5) = .nx [some (.frl (ns.map .int)), some (.int i), some (.own μ.length), some d, o4, some s, o6, o7, o8] (st μ x7) ∧ Wk d ∧ PotB x7 := by
    have t : tB (e2 (oEq false) (eA m_w_draw (aC (eV 2) (aC (eC (.int 3)) aN))) (eC (.int 0))) [some (.frl (ns.map .int)), some (.int i), some (.own μ.length), some (.lst (ys.map fD)), o4, some s, o6, o7, o8] (st μ x5) = .ok (decide (r6 = 0)) (st μ x6) := tB_ok ((e2_ok ((eA_ok (ds := [.own μ.length, .int 3]) rfl).trans q7) (eCo _ _ _)).trans (eq_int _ _ _))
    by_cases k : r6 = 0
    · rw [decide_eq_true k] at t
      obtain ⟨d, x7, q8, wd, _, p7⟩ := oddws_ok p6 sys (by omega) (by intro z; rw [z] at ly2; simp at ly2; omega) μ
      exact ⟨d, x7, (if_tt t).trans (set_ok ((eA_ok (ds := [.own μ.length, .lst (ys.map fD)]) rfl).trans q8)), wd, p7⟩
    · rw [decide_eq_false k] at t
      exact ⟨_, x6, (if_ff t).trans rfl, wl, p6⟩
  obtain ⟨d, x7, s4, wd, p7⟩ := s4
  obtain ⟨r8, x8, q9, r80, r81, p8⟩ := draw_ok p7 (m := 3) (by decide) (by decide) μ
  have s5 : ∃ (s' : D) (x9 : D), sIf (tB (e2 (oEq false) (eA m_w_draw (aC (eV 2) (aC (eC (.int 3)) aN))) (eC (.int 0)))) (sSet 5 (eA m_w_odd_weight (aC (eV 2) aN))) sNx [some (.frl (ns.map .int)), some (.int i), some (.own μ.length), some d, o4, some s, o6, o7, o8] (st μ x7) = .nx [some (.frl (ns.map .int)), some (.int i), some (.own μ.length), some d, o4, some s', o6, o7, o8] (st μ x9) ∧ skB s' = true := by
    have t : tB (e2 (oEq false) (eA m_w_draw (aC (eV 2) (aC (eC (.int 3)) aN))) (eC (.int 0))) [some (.frl (ns.map .int)), some (.int i), some (.own μ.length), some d, o4, some s, o6, o7, o8] (st μ x7) = .ok (decide (r8 = 0)) (st μ x8) := tB_ok ((e2_ok ((eA_ok (ds := [.own μ.length, .int 3]) rfl).trans q9) (eCo _ _ _)).trans (eq_int _ _ _))
    by_cases k : r8 = 0
    · rw [decide_eq_true k] at t
      obtain ⟨s', x9, q10, sk', _, p9⟩ := oddw_ok p8 μ
      exact ⟨s', x9, (if_tt t).trans (set_ok ((eA_ok (ds := [.own μ.length]) rfl).trans q10)), sk'⟩
    · rw [decide_eq_false k] at t
      exact ⟨s, x8, (if_ff t).trans rfl, sks⟩
  obtain ⟨s', x9, s5, sk'⟩ := s5
  obtain ⟨t, ht⟩ := repr_ok wd sk'
  obtain ⟨o, hdue, htold⟩ := agree (in_of wd sk')
  have s6 : sSet 6 (eA oRepr (aC (eA oTupN (aC (eV 3) (aC (eV 5) aN))) aN)) [some (.frl (ns.map .int)), some (.int i), some (.own μ.length), some d, o4, some s', o6, o7, o8] (st μ x9) = .nx [some (.frl (ns.map .int)), some (.int i), some (.own μ.length), some d, o4, some s', some (.str t), o7, o8] (st μ x9) := set_ok ((eA_ok (ds := [.tup [d, s']]) rfl).trans (ht _))
  have s7 : sSet 7 (eA m_w_due (aC (eV 3) (aC (eV 5) aN))) [some (.frl (ns.map .int)), some (.int i), some (.own μ.length), some d, o4, some s', some (.str t), o7, o8] (st μ x9) = .nx [some (.frl (ns.map .int)), some (.int i), some (.own μ.length), some d, o4, some s', some (.str t), some (.str o), o8] (st μ x9) := set_ok ((eA_ok (ds := [d, s']) rfl).trans (hdue _))
  obtain ⟨o8', s8⟩ := inner (scr := some (.frl (ns.map .int))) (o1 := some (.int i)) (o2 := some (.own μ.length)) (o4 := o4) wd sk' ht htold o8 (st μ x9)
  exact ⟨_, _, _, _, _, _, _, _, (seq_nx s1).trans ((seq_nx s2).trans ((seq_nx s3).trans ((seq_nx s4).trans ((seq_nx s5).trans ((seq_nx s6).trans ((seq_nx s7).trans s8))))))⟩
end Pk59
end

section
set_option Elab.async false
set_option linter.all false
set_option autoImplicit false
set_option maxRecDepth 100000
set_option maxHeartbeats 2000000
namespace Pk59
open PySem DL
theorem min_ok (n : Nat) (μ : Sto) : oMin2 [.int 12, .int (n : Int)] μ = .ok (.int ((min 12 n : Nat) : Int)) μ := by
  have e : (if (n : Int) < 12 then (n : Int) else 12) = ((min 12 n : Nat) : Int) := by omega
  show Res.ok (D.int (if (n : Int) < 12 then (n : Int) else 12)) μ = _
  rw [e]
theorem max_ok (n : Nat) (μ : Sto) : oMax2 [.int 1, .int (n : Int)] μ = .ok (.int ((max 1 n : Nat) : Int)) μ := by
  have e : (if (n : Int) > 1 then (n : Int) else 1) = ((max 1 n : Nat) : Int) := by omega
  show Res.ok (D.int (if (n : Int) > 1 then (n : Int) else 1)) μ = _
  rw [e]
theorem fiRng_ok {fa : DL.Env → Sto → Res (List D)} {ρ : DL.Env} {μ μ1 : Sto} {j : Int} (h : fa ρ μ = .ok [.int j] μ1) (h0 : -(2 ^ 62) ≤ j ∧ j < 2 ^ 62) : fiRng fa ρ μ = .ok (rngD 0 j.toNat, none) μ1 := by
  unfold fiRng
  rw [h]
  simp only [Res.bind]
  rw [if_pos h0]
theorem rng_of {fa : DL.Env → Sto → Res (List D)} {ρ : DL.Env} {μ μ1 : Sto} {k : Nat} (h : fa ρ μ = .ok [.int (k : Int)] μ1) (h0 : k ≤ 100) : fiRng fa ρ μ = .ok (rngD 0 k, none) μ1 := by
  have h1 := fiRng_ok h ⟨by omega, by omega⟩
  rw [Int.toNat_natCast] at h1
  exact h1
theorem rng_ok (ns : List Int) (r : DL.Env) (hl : oLen [.frl (ns.map .int)] [] = .ok (.int (ns.length : Int)) []) : fiRng (aC (eA oMax2 (aC (eC (.int 1)) (aC (eA oMin2 (aC (eC (.int 12)) (aC (eA oLen (aC (eV 0) aN)) aN))) aN))) aN) (some (.frl (ns.map .int)) :: r) [] = .ok (rngD 0 (max 1 (min 12 ns.length)), none) [] := by
  have h0 : aC (eV 0) aN (some (.frl (ns.map .int)) :: r) [] = .ok [.frl (ns.map .int)] [] := rfl
  have h1 := (eA_ok (op := oLen) h0).trans hl
  have h2 := (eA_ok (op := oMin2) (aC_ok (eCo (.int 12) _ _) (aC_ok h1 (rfl : aN _ _ = .ok [] _)))).trans (min_ok _ _)
  have h3 := (eA_ok (op := oMax2) (aC_ok (eCo (.int 1) _ _) (aC_ok h2 (rfl : aN _ _ = .ok [] _)))).trans (max_ok _ _)
  have h4 := aC_ok h3 (rfl : aN _ _ = .ok [] _)
  exact rng_of h4 (by omega)
theorem law_ok (ns : List Int) (hn : ns.length ≤ 63) : ∃ μ', m_law [.frl (ns.map .int)] [] = .ok (.bl true) μ' := by
  obtain ⟨ρ', μ', q1, p1, p2, p3, p4, p5, p6, p7, p8, hq⟩ := for_inv (tg := gN 1) (kp := none) (g := turn) (fun _ ρ _ => ∃ p1 p2 p3 p4 p5 p6 p7 p8, ρ = [some (.frl (ns.map .int)), p1, p2, p3, p4, p5, p6, p7, p8])
    (rngD 0 (max 1 (min 12 ns.length))) 0 [some (.frl (ns.map .int)), none, none, none, none, none, none, none, none] [] ⟨_, _, _, _, _, _, _, _, rfl⟩ (by
    rintro i x ρ m hx ⟨p1, p2, p3, p4, p5, p6, p7, p8, rfl⟩
    have hi : i < max 1 (min 12 ns.length) := by
      have := (List.getElem?_eq_some_iff.mp hx).1
      simpa [rngD] using this
    have hx' : x = .int (i : Int) := by
      unfold rngD at hx
      rw [List.getElem?_map, List.getElem?_range hi] at hx
      simp at hx
      exact hx.symm
    subst hx'
    obtain ⟨r2, r3, r4, r5, r6, r7, r8, m2, h⟩ := turn_ok ns (i := (i : Int)) (by omega) p2 p3 p4 p5 p6 p7 p8 m
    exact ⟨_, _, m2, rfl, h, trivial, _, _, _, _, _, _, _, _, rfl⟩)
  subst hq
  have hl : oLen [.frl (ns.map .int)] [] = .ok (.int (ns.length : Int)) [] := by
    show Res.ok (D.int (((ns.map D.int).length : Nat) : Int)) [] = _
    rw [List.length_map]
  have hr : fiRng (aC (eA oMax2 (aC (eC (.int 1)) (aC (eA oMin2 (aC (eC (.int 12)) (aC (eA oLen (aC (eV 0) aN)) aN))) aN))) aN) [some (.frl (ns.map .int)), none, none, none, none, none, none, none, none] [] = .ok (rngD 0 (max 1 (min 12 ns.length)), none) [] := rng_ok ns _ hl
  refine ⟨_, run_rt' (μ' := μ') ?_ (Nat.zero_le _) ⟨Nat.zero_le _, fun m hm => absurd hm (Nat.not_lt_zero _)⟩⟩
  have hfor := (for_eq (tg := gN 1) (g := turn) hr).trans q1
  have hs : sSeq (sFor (fiRng (aC (eA oMax2 (aC (eC (.int 1)) (aC (eA oMin2 (aC (eC (.int 12)) (aC (eA oLen (aC (eV 0) aN)) aN))) aN))) aN)) (gN 1) turn) (sRet (eC (.bl true))) [some (.frl (ns.map .int)), none, none, none, none, none, none, none, none] [] = .rt (.bl true) μ' := by
    rw [seq_nx hfor]
    rfl
  exact hs
end Pk59
end

section
set_option Elab.async false
set_option linter.all false
set_option autoImplicit false
set_option maxRecDepth 100000
set_option maxHeartbeats 0
namespace DL
open PySem PySem.Spec PyProof.Rows L2
/-- walk_C, where what is let out hangs on the world -/
theorem walk_W {l : PySem.W.OpenLaw} {n : Nat} {q : Program} {loose : List Str} {XP : (Str → Option Value) → Heap → Prop} {YP : World → Heap → Prop} {d : DefRec} {CX : World → CXT} {x : Str}
    (most : l.most = some n) (small : n ≤ sizeLine) (nodf : d.params.defaults = [])
    (F : ∀ (w : World) (mg : Str → Option Value) (fa : Addr) (h : Heap), YP w h → h.Ns mainGlobals mg → mg d.name = some (.ref fa) →
      ∃ (K : PySem.W.Frag) (fd : FuncData) (sp : Sp), K.In h ∧ (∀ (s : Shared) (u : Value), BindsTo s fd ⟨[u], []⟩ [(x, u)]) ∧
        (∀ (H : Hp) (a : Addr) (ns : List Int), ns.length ≤ n → Only H → SqL K H a (ns.map V.int) → sp [.ref a] H (fun v _ => v = .bl true) fun _ _ _ => False) ∧
        ∀ base : Heap, K.In base → base.Ns mainGlobals mg → FnC callerA l.prog w K mg base (CX w) fa fd [x] sp)
    (hCX : ∀ (w : World) (H : Hp) (s : Shared) (e : Value) (s' : Shared), CX w [] H s (fun _ _ _ => False) e s' → False) :
    PySem.W.WalkO q loose XP YP l.row.toRowW d [] (fun f vs => PySem.call f vs) := by
  refine Att.attach_call most nodf fun w s₀ s₁ mg mb fa o pm cd doc a vs ns G Y ho hd hcd hmg hobj hints hlen hg => ?_
  obtain ⟨K, fd, sp, KX, hb, hs, hF⟩ := F w mg fa _ Y G.T.g hmg
  exact law_callC KX G.T.g G.T.b G.T.builtins G.T.nolimit hg hobj hints (Nat.le_trans hlen small) hF hb (fun H hO hS => hs H a ns hlen hO hS) fun H e s' => hCX w H s₁ e s'
end DL
open PySem PySem.W PySem.Calls PyProof.Rows
theorem PySem.Challenge.cw_loafshares_k59_scales_refused_holds : PySem.Challenge.rw_loafshares_k59_scales_refused.Holds := by
  w_on; o_law
  refine HandSHeadRun.head_any (r := OpenLaw.row PySem.Challenge.rw_loafshares_k59_scales_refused) (q := view (OpenLaw.row PySem.Challenge.rw_loafshares_k59_scales_refused).prog [53]) (H := Pk59.hk) (ob := Pk59.ob) (M := 3000) (loose := Pk59.loose) (d := HandSHeadRun.topDef (OpenLaw.row PySem.Challenge.rw_loafshares_k59_scales_refused).prog 53) (kwd := []) Pk59.ob_eq
    (by kernel_rfl) (fun s => by kernel_rfl) Pk59.hrun (by kernel_rfl) (by kernel_rfl) (by kernel_rfl) (by rfl) (by first | assumption | decide +kernel) (by decide +kernel) ⟨rfl, rfl, rfl, rfl, rfl, by decide +kernel⟩ ?hw ?hc
  case hw => w_witness2
  case hc =>
    refine DL.walk_W (l := PySem.Challenge.rw_loafshares_k59_scales_refused) (n := 63) (x := "_law_script") (CX := fun w => L2N.CX (PySem.Challenge.rw_loafshares_k59_scales_refused).prog w) rfl (by decide) (by kernel_rfl) ?F (fun w H s e s' h => DL.noEx H s e s' h)
    intro w mg fa h Y G hmg0
    obtain ⟨K, KX, c⟩ := Y
    have hmg : mg ("law" : PySem.Str) = some (.ref fa) := by
      have e : (HandSHeadRun.topDef (OpenLaw.row PySem.Challenge.rw_loafshares_k59_scales_refused).prog 53).name = ("law" : PySem.Str) := by kernel_rfl
      rw [← e]
      exact hmg0
    have C : Pk59.Fx K mg := Pk59.fx_of KX G c
    have ef := hmg.symm.trans (Pk59.g_law C)
    cases ef
    obtain ⟨fd, F⟩ := Pk59.f_law C
    have b := L2.FunD.bindsA (ps := ["_law_script"]) F fun _ _ _ _ _ _ us hl => match us, hl with | [_], _ => rfl
    exact ⟨K, fd, _, KX, fun s v => b s [v] rfl, fun H a ns hl hO hS => DL.law_sp (K := K) (n := 63) Pk59.law_ok H a ns hl hO hS, fun base _ _ => Pk59.c_law F C⟩
end
