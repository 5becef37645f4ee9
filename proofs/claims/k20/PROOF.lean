import PyProof.Rows.All
import Wide.All
import OpenK.AllK
import Wide.FinOn
import HandS.ForMost
import HandS.Exc
import HandS.ExcOwn
import HandS.CallSlots
import HandS.Wide
import HandS.WideBits
import HandS.Gcd
import HandS.IsInst
import HandS.Style
import HandS.Zip
import HandS.TupAny
import HandS.Defaults
import HandS.WordsExc
import HandS.NoneIn
import HandS.Deep
import KE.KMathG
import PyProof.ReprBulk
import HandS.Walk
import KE.KStateDown
import HandS.Head0
import HandS.Head1
import HandS.Head2
import HandS.Head3
import HandS.HeadEnd
import HandS.EndBits
import HandS.HeadHook1
import HandS.HeadHook2
import Lean
import PySem.Challenge.RW_steamgears_k20_whole_states_of_valves
set_option Elab.async false
set_option linter.all false
set_option maxRecDepth 100000
set_option maxHeartbeats 0
/-! The data layer: plain data for values, a store for lists that change, relations to the abstract heap. -/
namespace DL
open PySem PySem.Spec PyProof.Rows L2

/-- what a slot holds: data, or a list that may change (its place in the store) -/
inductive W where
  | d (x : PyData)
  | l (j : Nat)
abbrev Sto := List (List PyData)
abbrev Env' := List (Option W)
inductive Out (α : Type) where
  | ok (a : α) (S : Sto)
  | exc (k : Nat) (a : PyData) (S : Sto)
abbrev Mo (α : Type) := Sto → Option (Out α)
def bnd {α β : Type} (m : Mo α) (f : α → Mo β) : Mo β := fun S => match m S with
  | none => none
  | some (.exc k a S') => some (.exc k a S')
  | some (.ok x S') => f x S'
def re {α : Type} (x : α) : Mo α := fun S => some (.ok x S)
def no {α : Type} : Mo α := fun _ => none
def lift {α : Type} (o : Option α) : Mo α := fun S => match o with
  | some x => some (.ok x S)
  | none => none

/-! ### relations -/
/-- the addresses of the store's lists, and of lists under way that no data holds -/
structure Mu where
  l : List Addr
  h : List Addr
mutual
inductive RD (K : PySem.W.Frag) (μ : Mu) (H : Hp) : PyData → V → Prop
  | non : RD K μ H .none .non
  | bl (b : Bool) : RD K μ H (.bool b) (.bl b)
  | int (i : Int) : RD K μ H (.int i) (.int i)
  | str (x : Str) : RD K μ H (.str x) (.str x)
  | tup {a : Addr} {vs : List V} {ds : List PyData} : SqT K H a vs → RDs K μ H ds vs → RD K μ H (.tuple ds) (.ref a)
  | lst {a : Addr} {vs : List V} {ds : List PyData} : Rd H a (.lst vs) → a ∉ μ.l → a ∉ μ.h → RDs K μ H ds vs → RD K μ H (.list ds) (.ref a)
  | dct {a : Addr} : Rd H a (.dK []) → RD K μ H (.dict []) (.ref a)
inductive RDs (K : PySem.W.Frag) (μ : Mu) (H : Hp) : List PyData → List V → Prop
  | nil : RDs K μ H [] []
  | cons {d : PyData} {v : V} {ds : List PyData} {vs : List V} : RD K μ H d v → RDs K μ H ds vs → RDs K μ H (d :: ds) (v :: vs)
end
/-- what is read: data, or the very list at a place of the store -/
inductive RR (K : PySem.W.Frag) (μ : Mu) (H : Hp) : PyData → V → Prop
  | d {x : PyData} {v : V} : RD K μ H x v → RR K μ H x v
  | l {a : Addr} {vs : List V} {ds : List PyData} : H a = some (.lst vs) → RDs K μ H ds vs → RR K μ H (.list ds) (.ref a)
/-- from one state to a later one -/
structure Stp (μ : Mu) (H : Hp) (μ' : Mu) (H' : Hp) : Prop where
  pre : ∃ t, μ'.l = μ.l ++ t
  keep : ∀ a o, H a = some o → a ∉ μ.l → H' a = some o
  new : ∀ a ∈ μ'.l, a ∈ μ.l ∨ H a = none
  old : ∀ a ∈ μ.l, ∃ vs, H a = some (.lst vs)
  hnew : ∀ a ∈ μ'.h, a ∈ μ.h ∨ H a = none
  hsub : ∀ a ∈ μ.h, a ∈ μ'.h
structure RS (K : PySem.W.Frag) (μ : Mu) (S : Sto) (H : Hp) : Prop where
  len : μ.l.length = S.length
  nd : μ.l.Nodup
  at_ : ∀ (j : Nat) (a : Addr) (xs : List PyData), μ.l[j]? = some a → S[j]? = some xs → ∃ vs, H a = some (.lst vs) ∧ RDs K μ H xs vs
  hid : ∀ a ∈ μ.h, a ∉ μ.l ∧ ∃ vs, H a = some (.lst vs)
def RW (K : PySem.W.Frag) (μ : Mu) (H : Hp) : W → V → Prop
  | .d x, v => RD K μ H x v
  | .l j, v => ∃ a, μ.l[j]? = some a ∧ v = .ref a
structure RE (K : PySem.W.Frag) (μ : Mu) (H : Hp) (ρ : Env') (σ : L2.St) : Prop where
  len : ρ.length = σ.length
  at_ : ∀ (i : Nat) (w : W), ρ[i]? = some (some w) → ∃ v, σ[i]? = some (some v) ∧ RW K μ H w v
inductive RWs (K : PySem.W.Frag) (μ : Mu) (H : Hp) : List W → List V → Prop
  | nil : RWs K μ H [] []
  | cons {w : W} {v : V} {ws : List W} {vs : List V} : RW K μ H w v → RWs K μ H ws vs → RWs K μ H (w :: ws) (v :: vs)

section
variable {K : PySem.W.Frag} {μ μ' μ2 : Mu} {H H' H2 : Hp} {S S' : Sto}
structure Gen (K : PySem.W.Frag) (μ : Mu) (H : Hp) (μ' : Mu) (H' : Hp) : Prop where
  t : ∀ a vs, SqT K H a vs → SqT K H' a vs
  l : ∀ a vs, Rd H a (.lst vs) → a ∉ μ.l → a ∉ μ.h → Rd H' a (.lst vs) ∧ a ∉ μ'.l ∧ a ∉ μ'.h
  k : ∀ a, Rd H a (.dK []) → Rd H' a (.dK [])
mutual
theorem RD.gen (s : Gen K μ H μ' H') : ∀ (d : PyData) (v : V), RD K μ H d v → RD K μ' H' d v
  | .none, _, .non => .non
  | .bool _, _, .bl b => .bl b
  | .int _, _, .int i => .int i
  | .str _, _, .str x => .str x
  | .tuple ds, _, .tup h r => .tup (s.t _ _ h) (RDs.gen s ds _ r)
  | .list ds, _, .lst h n m r => .lst (s.l _ _ h n m).1 (s.l _ _ h n m).2.1 (s.l _ _ h n m).2.2 (RDs.gen s ds _ r)
  | .dict _, _, .dct h => .dct (s.k _ h)
theorem RDs.gen (s : Gen K μ H μ' H') : ∀ (ds : List PyData) (vs : List V), RDs K μ H ds vs → RDs K μ' H' ds vs
  | [], _, .nil => .nil
  | d :: ds, _, .cons h t => .cons (RD.gen s d _ h) (RDs.gen s ds _ t)
end
/-- kept but where lists that change lie -/
theorem gen_of (hk : ∀ a o, H a = some o → H' a = some o ∨ ((a ∈ μ.l ∨ a ∈ μ.h) ∧ ∃ vs, o = .lst vs)) (hn : ∀ a, (a ∈ μ'.l ∨ a ∈ μ'.h) → a ∈ μ.l ∨ a ∈ μ.h ∨ H a = none) : Gen K μ H μ' H' := by
  have rd : ∀ a o, (∀ vs, o ≠ .lst vs) → Rd H a o → Rd H' a o := fun a o no h => by
    rcases h with h | ⟨c, h⟩
    · rcases hk a _ h with q | ⟨_, vs, e⟩
      · exact .inl q
      · exact absurd e (no vs)
    · rcases hk a _ h with q | ⟨_, vs, e⟩
      · exact .inr ⟨c, q⟩
      · cases e
  refine ⟨fun a vs h => ?_, fun a vs h n m => ?_, fun a h => rd a _ (by simp) h⟩
  · rcases h with h | h
    · exact .inl (rd a _ (by simp) h)
    · exact .inr h
  · have hH : H a ≠ none := by
      rcases h with h | ⟨c, h⟩ <;> (rw [h]; simp)
    have q : Rd H' a (.lst vs) := by
      rcases h with h | ⟨c, h⟩
      · rcases hk a _ h with q | ⟨z | z, _⟩
        · exact .inl q
        · exact absurd z n
        · exact absurd z m
      · rcases hk a _ h with q | ⟨z | z, _⟩
        · exact .inr ⟨c, q⟩
        · exact absurd z n
        · exact absurd z m
    refine ⟨q, fun z => ?_, fun z => ?_⟩
    · rcases hn a (.inl z) with q | q | q
      · exact n q
      · exact m q
      · exact hH q
    · rcases hn a (.inr z) with q | q | q
      · exact n q
      · exact m q
      · exact hH q
theorem Stp.gen (s : Stp μ H μ' H') : Gen K μ H μ' H' := gen_of (fun a o h => by
  by_cases hm : a ∈ μ.l
  · obtain ⟨vs, e⟩ := s.old a hm
    rw [h] at e; cases e
    exact .inr ⟨.inl hm, vs, rfl⟩
  · exact .inl (s.keep a o h hm)) fun a h => by
  rcases h with h | h
  · rcases s.new a h with q | q
    · exact .inl q
    · exact .inr (.inr q)
  · rcases s.hnew a h with q | q
    · exact .inr (.inl q)
    · exact .inr (.inr q)
theorem Stp.sqT (s : Stp μ H μ' H') {a : Addr} {vs : List V} (h : SqT K H a vs) : SqT K H' a vs := (s.gen (K := K)).t a vs h
theorem Stp.rdL (s : Stp μ H μ' H') {a : Addr} {vs : List V} (h : Rd H a (.lst vs)) (n : a ∉ μ.l) : Rd H' a (.lst vs) := by
  rcases h with h | ⟨c, h⟩
  · exact .inl (s.keep a _ h n)
  · exact .inr ⟨c, s.keep a _ h n⟩
theorem RD.stp (s : Stp μ H μ' H') : ∀ (d : PyData) (v : V), RD K μ H d v → RD K μ' H' d v := RD.gen s.gen
theorem RDs.stp (s : Stp μ H μ' H') : ∀ (ds : List PyData) (vs : List V), RDs K μ H ds vs → RDs K μ' H' ds vs := RDs.gen s.gen
theorem gen_less (sub : ∀ a, (a ∈ μ'.l ∨ a ∈ μ'.h) → a ∈ μ.l ∨ a ∈ μ.h) : Gen K μ H μ' H := gen_of (fun _ _ h => .inl h) fun a h => by
  rcases sub a h with q | q
  · exact .inl q
  · exact .inr (.inl q)
theorem RDs.length : ∀ {ds : List PyData} {vs : List V}, RDs K μ H ds vs → ds.length = vs.length
  | _, _, .nil => rfl
  | _, _, .cons _ t => congrArg Nat.succ (RDs.length t)
theorem RDs.get : ∀ {ds : List PyData} {vs : List V} {i : Nat} {d : PyData}, RDs K μ H ds vs → ds[i]? = some d → ∃ v, vs[i]? = some v ∧ RD K μ H d v
  | _, _, _, _, .nil, e => by simp at e
  | _, _, 0, _, .cons h _, e => by simp at e; subst e; exact ⟨_, rfl, h⟩
  | _, _, i + 1, d, .cons _ t, e => by
    obtain ⟨v, a, b⟩ := RDs.get (i := i) (d := d) t (by simpa using e)
    exact ⟨v, by simpa using a, b⟩
theorem RDs.append : ∀ {ds es : List PyData} {vs ws : List V}, RDs K μ H ds vs → RDs K μ H es ws → RDs K μ H (ds ++ es) (vs ++ ws)
  | _, _, _, _, .nil, q => q
  | _, _, _, _, .cons h t, q => .cons h (RDs.append t q)
theorem RDs.take : ∀ {ds : List PyData} {vs : List V} (n : Nat), RDs K μ H ds vs → RDs K μ H (ds.take n) (vs.take n)
  | _, _, 0, _ => .nil
  | _, _, _ + 1, .nil => .nil
  | _, _, n + 1, .cons h t => .cons h (RDs.take n t)
theorem RDs.drop : ∀ {ds : List PyData} {vs : List V} (n : Nat), RDs K μ H ds vs → RDs K μ H (ds.drop n) (vs.drop n)
  | _, _, 0, h => h
  | _, _, _ + 1, .nil => .nil
  | _, _, n + 1, .cons _ t => RDs.drop n t
theorem RDs.set : ∀ {ds : List PyData} {vs : List V} {d : PyData} {v : V} (i : Nat), RD K μ H d v → RDs K μ H ds vs → RDs K μ H (ds.set i d) (vs.set i v)
  | _, _, _, _, _, _, .nil => .nil
  | _, _, _, _, 0, q, .cons _ t => .cons q t
  | _, _, _, _, i + 1, q, .cons h t => .cons h (RDs.set i q t)
theorem Stp.refl (hs : RS K μ S H) : Stp μ H μ H := ⟨⟨[], by simp⟩, fun _ _ h _ => h, fun _ h => .inl h, fun a ha => by
  obtain ⟨j, hj⟩ := List.getElem?_of_mem ha
  have hl : j < S.length := by rw [← hs.len]; exact (List.getElem?_eq_some_iff.mp hj).1
  obtain ⟨vs, e, _⟩ := hs.at_ j a S[j] hj (List.getElem?_eq_getElem hl)
  exact ⟨vs, e⟩, fun _ h => .inl h, fun _ h => h⟩
theorem RS.lstAt (hs : RS K μ S H) : ∀ a ∈ μ.l, ∃ vs, H a = some (.lst vs) := (Stp.refl hs).old
theorem Stp.trans (a : Stp μ H μ' H') (b : Stp μ' H' μ2 H2) : Stp μ H μ2 H2 where
  pre := by
    obtain ⟨t, e⟩ := a.pre
    obtain ⟨t', e'⟩ := b.pre
    exact ⟨t ++ t', by rw [e', e, List.append_assoc]⟩
  keep := fun x o h n => b.keep x o (a.keep x o h n) fun z => by
    rcases a.new x z with q | q
    · exact n q
    · rw [h] at q; cases q
  new := fun x hx => by
    by_cases hm : x ∈ μ.l
    · exact .inl hm
    · rcases b.new x hx with q | q
      · exact a.new x q
      · cases e : H x with
        | none => exact .inr rfl
        | some o => rw [a.keep x o e hm] at q; cases q
  old := a.old
  hnew := fun x hx => by
    rcases b.hnew x hx with q | q
    · exact a.hnew x q
    · cases e : H x with
      | none => exact .inr rfl
      | some o =>
        by_cases hm : x ∈ μ.l
        · obtain ⟨t, e3⟩ := a.pre
          obtain ⟨vs, e2⟩ := b.old x (by rw [e3]; exact List.mem_append_left _ hm)
          rw [e2] at q; cases q
        · rw [a.keep x o e hm] at q; cases q
  hsub := fun x hx => b.hsub x (a.hsub x hx)
theorem RW.stp (s : Stp μ H μ' H') {w : W} {v : V} (h : RW K μ H w v) : RW K μ' H' w v := by
  cases w with
  | d x => exact RD.stp s x v h
  | l j =>
    obtain ⟨a, e, q⟩ := h
    obtain ⟨t, z⟩ := s.pre
    refine ⟨a, ?_, q⟩
    rw [z, List.getElem?_append_left (List.getElem?_eq_some_iff.mp e).1]
    exact e
theorem RWs.stp (s : Stp μ H μ' H') : ∀ {ws : List W} {vs : List V}, RWs K μ H ws vs → RWs K μ' H' ws vs
  | _, _, .nil => .nil
  | _, _, .cons h t => .cons (h.stp s) (RWs.stp s t)
theorem RE.stp {ρ : Env'} {σ : L2.St} (s : Stp μ H μ' H') (h : RE K μ H ρ σ) : RE K μ' H' ρ σ := ⟨h.len, fun i w e => by
  obtain ⟨v, a, b⟩ := h.at_ i w e
  exact ⟨v, a, b.stp s⟩⟩
theorem RE.set {ρ : Env'} {σ : L2.St} {i : Nat} {w : W} {v : V} (h : RE K μ H ρ σ) (r : RW K μ H w v) : RE K μ H (ρ.set i (some w)) (σ.set i (some v)) := by
  refine ⟨by simpa using h.len, fun j u e => ?_⟩
  by_cases hj : i = j
  · subst hj
    have hl : i < ρ.length := by
      have := (List.getElem?_eq_some_iff.mp e).1
      simpa using this
    rw [List.getElem?_set_self hl] at e
    cases e
    exact ⟨v, List.getElem?_set_self (by rw [← h.len]; exact hl), r⟩
  · rw [List.getElem?_set_ne hj] at e ⊢
    exact h.at_ j u e
theorem RE.clear {ρ : Env'} {σ : L2.St} {i : Nat} (h : RE K μ H ρ σ) : RE K μ H (ρ.set i none) (σ.set i none) := by
  refine ⟨by simpa using h.len, fun j u e => ?_⟩
  by_cases hj : i = j
  · subst hj
    have hl : i < ρ.length := by
      have := (List.getElem?_eq_some_iff.mp e).1
      simpa using this
    rw [List.getElem?_set_self hl] at e
    cases e
  · rw [List.getElem?_set_ne hj] at e ⊢
    exact h.at_ j u e
/-- a new thing, immutable or never to change, is laid -/
theorem fresh_stp (hs : RS K μ S H) {p : Addr} {o : HO} (hp : H p = none) : Stp μ H μ (upd H p o) ∧ RS K μ S (upd H p o) ∧ p ∉ μ.l ∧ p ∉ μ.h := by
  have hn : p ∉ μ.l := fun z => by
    obtain ⟨vs, e⟩ := hs.lstAt p z
    rw [hp] at e; cases e
  have hm : p ∉ μ.h := fun z => by
    obtain ⟨_, vs, e⟩ := hs.hid p z
    rw [hp] at e; cases e
  have st : Stp μ H μ (upd H p o) := ⟨⟨[], by simp⟩, fun a u h _ => by rw [upd_ne (ne_of_none h hp)]; exact h, fun _ h => .inl h, hs.lstAt, fun _ h => .inl h, fun _ h => h⟩
  refine ⟨st, ⟨hs.len, hs.nd, fun j a xs e1 e2 => ?_, fun a ha => ?_⟩, hn, hm⟩
  · obtain ⟨vs, a1, a2⟩ := hs.at_ j a xs e1 e2
    exact ⟨vs, by rw [upd_ne (ne_of_none a1 hp)]; exact a1, RDs.stp st xs vs a2⟩
  · obtain ⟨h1, vs, h2⟩ := hs.hid a ha
    exact ⟨h1, vs, by rw [upd_ne (ne_of_none h2 hp)]; exact h2⟩
/-- a new list that may change -/
theorem fresh_loc (hs : RS K μ S H) {p : Addr} {vs : List V} {xs : List PyData} (hp : H p = none) (r : RDs K μ H xs vs) :
    Stp μ H ⟨μ.l ++ [p], μ.h⟩ (upd H p (.lst vs)) ∧ RS K ⟨μ.l ++ [p], μ.h⟩ (S ++ [xs]) (upd H p (.lst vs)) ∧ RW K ⟨μ.l ++ [p], μ.h⟩ (upd H p (.lst vs)) (.l S.length) (.ref p) := by
  have hn : p ∉ μ.l := fun z => by
    obtain ⟨us, e⟩ := hs.lstAt p z
    rw [hp] at e; cases e
  have hm : p ∉ μ.h := fun z => by
    obtain ⟨_, us, e⟩ := hs.hid p z
    rw [hp] at e; cases e
  have st : Stp μ H ⟨μ.l ++ [p], μ.h⟩ (upd H p (.lst vs)) := ⟨⟨[p], rfl⟩, fun a u h _ => by rw [upd_ne (ne_of_none h hp)]; exact h, fun a ha => by
    rcases List.mem_append.mp ha with q | q
    · exact .inl q
    · have : a = p := by simpa using q
      subst this; exact .inr hp, hs.lstAt, fun _ h => .inl h, fun _ h => h⟩
  refine ⟨st, ⟨by simp [hs.len], List.nodup_append.mpr ⟨hs.nd, by simp, fun a ha b hb => ?_⟩, fun j a ys e1 e2 => ?_, fun a ha => ?_⟩, p, ?_, rfl⟩
  · have : b = p := by simpa using hb
    subst this
    rintro rfl
    exact hn ha
  · by_cases hj : j < S.length
    · rw [List.getElem?_append_left (by rw [hs.len]; exact hj)] at e1
      rw [List.getElem?_append_left hj] at e2
      obtain ⟨us, a1, a2⟩ := hs.at_ j a ys e1 e2
      exact ⟨us, by rw [upd_ne (ne_of_none a1 hp)]; exact a1, RDs.stp st ys us a2⟩
    · have hj2 : j = S.length := by
        have := (List.getElem?_eq_some_iff.mp e2).1
        simp at this
        omega
      subst hj2
      rw [← hs.len] at e1
      simp at e1 e2
      subst e1 e2
      exact ⟨vs, upd_same, RDs.stp st xs vs r⟩
  · obtain ⟨h1, us, h2⟩ := hs.hid a ha
    refine ⟨fun z => ?_, us, by rw [upd_ne (ne_of_none h2 hp)]; exact h2⟩
    rcases List.mem_append.mp z with q | q
    · exact h1 q
    · have : a = p := by simpa using q
      subst this
      exact hm ha
  · show (μ.l ++ [p])[S.length]? = some p
    rw [← hs.len]; simp
/-- a list of the store is written -/
theorem write_loc (hs : RS K μ S H) {j : Nat} {a : Addr} {ys : List PyData} {us : List V} (ha : μ.l[j]? = some a) (r : RDs K μ H ys us) :
    Stp μ H μ (upd H a (.lst us)) ∧ RS K μ (S.set j ys) (upd H a (.lst us)) := by
  have ham : a ∈ μ.l := List.mem_of_getElem? ha
  have st : Stp μ H μ (upd H a (.lst us)) := ⟨⟨[], by simp⟩, fun b o h n => by
    rw [upd_ne (fun z => n (by rw [z]; exact ham))]; exact h, fun _ h => .inl h, hs.lstAt, fun _ h => .inl h, fun _ h => h⟩
  refine ⟨st, ⟨by simpa using hs.len, hs.nd, fun i b xs e1 e2 => ?_, fun b hb => ?_⟩⟩
  · by_cases hij : j = i
    · subst hij
      rw [ha] at e1; cases e1
      have hl : j < S.length := by
        have := (List.getElem?_eq_some_iff.mp e2).1
        simpa using this
      rw [List.getElem?_set_self hl] at e2
      cases e2
      exact ⟨us, upd_same, RDs.stp st ys us r⟩
    · rw [List.getElem?_set_ne hij] at e2
      obtain ⟨vs, a1, a2⟩ := hs.at_ i b xs e1 e2
      refine ⟨vs, ?_, RDs.stp st xs vs a2⟩
      rw [upd_ne]
      · exact a1
      · rintro rfl
        obtain ⟨h1, q1⟩ := List.getElem?_eq_some_iff.mp ha
        obtain ⟨h2, q2⟩ := List.getElem?_eq_some_iff.mp e1
        exact hij ((List.getElem_inj hs.nd).mp (q1.trans q2.symm))
  · obtain ⟨h1, vs, h2⟩ := hs.hid b hb
    refine ⟨h1, vs, ?_⟩
    rw [upd_ne (fun z => h1 (by rw [z]; exact ham))]
    exact h2
/-- the list under way is written -/
theorem hid_gen {D : Addr} {us : List V} (hd : D ∈ μ.h) (hD : ∃ vs, H D = some (.lst vs)) : Gen K μ H μ (upd H D (.lst us)) := gen_of (fun a o h => by
  by_cases e : a = D
  · subst e
    obtain ⟨vs, q⟩ := hD
    rw [h] at q; cases q
    exact .inr ⟨.inr hd, vs, rfl⟩
  · exact .inl (by rw [upd_ne e]; exact h)) fun a h => by
  rcases h with q | q
  · exact .inl q
  · exact .inr (.inl q)
theorem hid_write (hs : RS K μ S H) {D : Addr} {us : List V} (hd : D ∈ μ.h) : RS K μ S (upd H D (.lst us)) := by
  obtain ⟨h1, h2⟩ := hs.hid D hd
  have g : Gen K μ H μ (upd H D (.lst us)) := hid_gen hd h2
  refine ⟨hs.len, hs.nd, fun j a xs e1 e2 => ?_, fun a ha => ?_⟩
  · obtain ⟨vs, a1, a2⟩ := hs.at_ j a xs e1 e2
    refine ⟨vs, ?_, RDs.gen g xs vs a2⟩
    rw [upd_ne]
    · exact a1
    · rintro rfl
      exact h1 (List.mem_of_getElem? e1)
  · obtain ⟨h3, vs, h4⟩ := hs.hid a ha
    refine ⟨h3, ?_⟩
    by_cases e : a = D
    · subst e; exact ⟨us, upd_same⟩
    · exact ⟨vs, by rw [upd_ne e]; exact h4⟩
end
end DL

namespace DL
open PySem PySem.Spec PyProof.Rows L2

/-- what an exception of class k with the value a is, at a state -/
abbrev XRel := Nat → PyData → Mu → Hp → Value → Option Addr → Prop
section
variable (K : PySem.W.Frag) (xr : XRel) (Wx : WX)
/-- a result is what is wanted -/
def Fi {α β : Type} (R : Mu → Hp → α → β → Prop) (μ : Mu) (H : Hp) (σ : L2.St) (Q : β → Hp → Prop) : Out α → Prop
  | .ok a S' => ∀ μ' H' b, Stp μ H μ' H' → RS K μ' S' H' → R μ' H' a b → Q b H'
  | .exc k a S' => ∀ μ' H' c d, Stp μ H μ' H' → RS K μ' S' H' → xr k a μ' H' c d → Wx c d σ H'
/-- the reading of a piece: it runs as m does -/
def tG {α β : Type} (R : Mu → Hp → α → β → Prop) (m : Env' → Mo α) : L2.St → Hp → (β → Hp → Prop) → Prop := fun σ H Q =>
  ∃ μ ρ S r, RS K μ S H ∧ RE K μ H ρ σ ∧ m ρ S = some r ∧ Fi K xr Wx R μ H σ Q r
abbrev rW : Mu → Hp → W → V → Prop := RW K
abbrev rB : Mu → Hp → Bool → Bool → Prop := fun _ _ a b => a = b
abbrev rA : Mu → Hp → List W → List V → Prop := RWs K
abbrev tE (m : Env' → Mo W) : TE := tG K xr Wx (rW K) m
abbrev tT (m : Env' → Mo Bool) : TT := tG K xr Wx rB m
abbrev tA (m : Env' → Mo (List W)) : TA := tG K xr Wx (rA K) m
end
section
variable {K : PySem.W.Frag} {xr : XRel} {Wx : WX} {α β γ δ : Type} {R : Mu → Hp → α → β → Prop} {R' : Mu → Hp → γ → δ → Prop} {μ μ' : Mu} {H H' : Hp} {σ : L2.St} {ρ : Env'} {S S' : Sto}
theorem Fi.stp {Q : β → Hp → Prop} {r : Out α} (s : Stp μ H μ' H') (h : Fi K xr Wx R μ H σ Q r) : Fi K xr Wx R μ' H' σ Q r := by
  cases r with
  | ok a S' => exact fun μ2 H2 b s2 => h μ2 H2 b (s.trans s2)
  | exc k a S' => exact fun μ2 H2 c d s2 => h μ2 H2 c d (s.trans s2)
/-- the first of two -/
theorem tG.first {m : Env' → Mo α} {f : α → Mo γ} {Q : δ → Hp → Prop} {r : Out γ} (hs : RS K μ S H) (he : RE K μ H ρ σ) (h : bnd (m ρ) f S = some r) (fi : Fi K xr Wx R' μ H σ Q r) :
    tG K xr Wx R m σ H (fun y H1 => ∃ μ1 S1 x, Stp μ H μ1 H1 ∧ RS K μ1 S1 H1 ∧ RE K μ1 H1 ρ σ ∧ R μ1 H1 x y ∧ f x S1 = some r ∧ Fi K xr Wx R' μ1 H1 σ Q r) := by
  unfold bnd at h
  cases e : m ρ S with
  | none => rw [e] at h; cases h
  | some o =>
    rw [e] at h
    refine ⟨μ, ρ, S, o, hs, he, e, ?_⟩
    cases o with
    | exc k a S1 =>
      cases h
      exact fi
    | ok x S1 => exact fun μ1 H1 b st rs rr => ⟨μ1, S1, x, st, rs, he.stp st, rr, h, fi.stp st⟩
theorem tG.last {m : Env' → Mo α} {Q : β → Hp → Prop} {r : Out α} (hs : RS K μ S H) (he : RE K μ H ρ σ) (h : m ρ S = some r) (fi : Fi K xr Wx R μ H σ Q r) : tG K xr Wx R m σ H Q := ⟨μ, ρ, S, r, hs, he, h, fi⟩
end
theorem PEw {X : Cx} {e : Expr} {t t' : TE} (h : PE X e t) (w : ∀ σ H Q, t' σ H Q → t σ H Q) : PE X e t' := ⟨fun pins s σ H Q I q => h.run pins s σ H Q I (w _ _ _ q)⟩
theorem PTw {X : Cx} {e : Expr} {t t' : TT} (h : PT X e t) (w : ∀ σ H Q, t' σ H Q → t σ H Q) : PT X e t' := ⟨fun pins s σ H Q I q => h.run pins s σ H Q I (w _ _ _ q)⟩
theorem PWw {X : Cx} {e : Expr} {t t' : TT} (h : PW X e t) (w : ∀ σ H Q, t' σ H Q → t σ H Q) : PW X e t' := ⟨fun wh pins s σ H Q I q => h.run wh pins s σ H Q I (w _ _ _ q)⟩
theorem PAw {X : Cx} {e : List Expr} {t t' : TA} (h : PA X e t) (w : ∀ σ H Q, t' σ H Q → t σ H Q) : PA X e t' := ⟨fun pos pins s σ H Q I q => h.run pos pins s σ H Q I (w _ _ _ q)⟩
theorem PSw {X : Cx} {e : Stmt} {t t' : TS} (h : PS X e t) (w : ∀ D σ H, t' D σ H → t D σ H) : PS X e t' := ⟨fun pins s σ H D I q => h.run pins s σ H D I (w _ _ _ q)⟩
theorem PSsw {X : Cx} {e : List Stmt} {t t' : TS} (h : PSs X e t) (w : ∀ D σ H, t' D σ H → t D σ H) : PSs X e t' := ⟨fun pins s σ H D I q => h.run pins s σ H D I (w _ _ _ q)⟩

/-! ### data out of what stands in a slot -/
def asD (w : W) : Mo PyData := fun S => match w with
  | .d x => some (.ok x S)
  | .l j => match S[j]? with
    | some xs => some (.ok (.list xs) S)
    | none => none
def onD (w : W) : Mo PyData := fun S => match w with
  | .d x => some (.ok x S)
  | .l _ => none
section
variable {K : PySem.W.Frag} {μ μ' : Mu} {H H' : Hp} {S S' : Sto} {r : Out PyData} {w : W} {v : V} {α : Type} {q : Out α} {f : PyData → Mo α}
theorem asD_ok (hs : RS K μ S H) (hw : RW K μ H w v) (h : bnd (asD w) f S = some q) : ∃ x, RR K μ H x v ∧ f x S = some q := by
  cases w with
  | d x => exact ⟨x, .d hw, h⟩
  | l j =>
    obtain ⟨a, e, rfl⟩ := hw
    unfold bnd asD at h
    cases z : S[j]? with
    | none => simp [z] at h
    | some xs =>
      simp [z] at h
      obtain ⟨vs, h1, h2⟩ := hs.at_ j a xs e z
      exact ⟨_, .l h1 h2, h⟩
theorem onD_ok (hw : RW K μ H w v) (h : bnd (onD w) f S = some q) : ∃ x, RD K μ H x v ∧ f x S = some q := by
  cases w with
  | d x => exact ⟨x, hw, h⟩
  | l j => cases h
end
end DL

namespace DL
open PySem PySem.Spec PyProof.Rows L2

/-! ### operations on data -/
abbrev LIM : Nat := 100000
def mulOk (i j : Int) : Bool := decide (i.natAbs.log2 + j.natAbs.log2 < 1000000)
def divOk (j : Int) : Bool := decide (j ≠ 0) && decide (j.natAbs.log2 < 9000)
def eqOk (x y : PyData) : Bool := SeqAt.shaped x && SeqAt.shaped y
inductive O2 where | add | sub | mul | fdiv | mod | pow | shl
  deriving DecidableEq
inductive C2 where | lt | le | gt | ge | eq | ne | is | isnt | inn | nin
  deriving DecidableEq
def o2 : O2 → PyData → PyData → Option PyData
  | .add, .int i, .int j => some (.int (i + j))
  | .add, .tuple xs, .tuple ys => if xs.length + ys.length ≤ LIM then some (.tuple (xs ++ ys)) else none
  | .add, .list xs, .list ys => if xs.length + ys.length ≤ LIM then some (.list (xs ++ ys)) else none
  | .sub, .int i, .int j => some (.int (i - j))
  | .mul, .int i, .int j => if mulOk i j = true then some (.int (i * j)) else none
  | .fdiv, .int i, .int j => if divOk j = true then some (.int (i.fdiv j)) else none
  | .mod, .int i, .int j => if j ≠ 0 then some (.int (i.fmod j)) else none
  | .pow, .int i, .int j => if 0 ≤ j ∧ j ≤ 1000 ∧ i.natAbs < 2 ^ 64 then some (.int (i ^ j.toNat)) else none
  | .shl, .int i, .int j => if 0 ≤ j ∧ j ≤ 1000000 ∧ i.natAbs.log2 < 1000000 then some (.int (i * 2 ^ j.toNat)) else none
  | _, _, _ => none
def isNon : PyData → Bool
  | .none => true
  | _ => false
def c2 : C2 → PyData → PyData → Option Bool
  | .lt, .int i, .int j => some (decide (i < j))
  | .le, .int i, .int j => some (decide (i ≤ j))
  | .gt, .int i, .int j => some (decide (j < i))
  | .ge, .int i, .int j => some (decide (j ≤ i))
  | .eq, .int i, .int j => some (decide (i = j))
  | .ne, .int i, .int j => some (!decide (i = j))
  | .eq, .str i, .str j => some (decide (i = j))
  | .ne, .str i, .str j => some (!decide (i = j))
  | .eq, x, y => if eqOk x y = true then some (PyData.eqv x y) else none
  | .ne, x, y => if eqOk x y = true then some (!PyData.eqv x y) else none
  | .is, .bool a, .bool b => some (decide (a = b))
  | .isnt, .bool a, .bool b => some (!decide (a = b))
  | .is, x, .none => some (isNon x)
  | .isnt, x, .none => some (!isNon x)
  | .inn, x, .tuple ys => if flatD x = true ∧ ys.all flatD = true then some (ys.any fun y => PyData.eqv y x) else none
  | .nin, x, .tuple ys => if flatD x = true ∧ ys.all flatD = true then some (!ys.any fun y => PyData.eqv y x) else none
  | .inn, x, .list ys => if eqOk x (.list ys) = true then some (ys.any fun y => PyData.eqv y x) else none
  | .nin, x, .list ys => if eqOk x (.list ys) = true then some (!ys.any fun y => PyData.eqv y x) else none
  | _, _, _ => none
where flatD : PyData → Bool
  | .none => true
  | .bool _ => true
  | .int _ => true
  | .str _ => true
  | _ => false

section
variable {K : PySem.W.Frag} {μ : Mu} {S : Sto} {H : Hp}
mutual
theorem RD.dp : ∀ (d : PyData) (v : V), RD K μ H d v → d.canLay0 = true → Dp K H v d
  | .none, _, .non, _ => .non
  | .bool _, _, .bl b, _ => .bl b
  | .int _, _, .int i, _ => .int i
  | .str _, _, .str x, _ => .str x
  | .tuple ds, _, .tup h r, c => .tup h (RDs.dp ds _ r (by simpa [PyData.canLay0] using c))
  | .list ds, _, .lst h _ _ r, c => .lst (.inl h) (RDs.dp ds _ r (by simpa [PyData.canLay0] using c))
  | .dict _, _, .dct h, c => by simp [PyData.canLay0] at c
theorem RDs.dp : ∀ (ds : List PyData) (vs : List V), RDs K μ H ds vs → PyData.canLayAll0 ds = true → DpAll K H vs ds
  | [], _, .nil, _ => .nil
  | d :: ds, _, .cons h t, c => by
    simp only [PyData.canLayAll0, Bool.and_eq_true] at c
    exact .cons (RD.dp d _ h c.1) (RDs.dp ds _ t c.2)
end
theorem RR.dp {d : PyData} {v : V} (h : RR K μ H d v) (c : SeqAt.shaped d = true) : Dp K H v d := by
  have c1 := SeqAt.canLay_of_shaped c
  cases h with
  | d h => exact RD.dp d v h c1
  | l h r => exact .lst (.inl (.inl h)) (RDs.dp _ _ r (by simpa [PyData.canLay0] using c1))
theorem RR.int {i : Int} {v : V} (h : RR K μ H (.int i) v) : v = .int i := by
  cases h with
  | d h => cases h; rfl
theorem RR.bl {i : Bool} {v : V} (h : RR K μ H (.bool i) v) : v = .bl i := by
  cases h with
  | d h => cases h; rfl
theorem RR.non {v : V} (h : RR K μ H .none v) : v = .non := by
  cases h with
  | d h => cases h; rfl
theorem RR.str {i : Str} {v : V} (h : RR K μ H (.str i) v) : v = .str i := by
  cases h with
  | d h => cases h; rfl
theorem RR.tup {ds : List PyData} {v : V} (h : RR K μ H (.tuple ds) v) : ∃ a vs, v = .ref a ∧ SqT K H a vs ∧ RDs K μ H ds vs := by
  cases h with
  | d h => cases h with
    | tup a b => exact ⟨_, _, rfl, a, b⟩
theorem RR.lst {ds : List PyData} {v : V} (h : RR K μ H (.list ds) v) : ∃ a vs, v = .ref a ∧ Rd H a (.lst vs) ∧ RDs K μ H ds vs := by
  cases h with
  | d h => cases h with
    | lst a _ _ b => exact ⟨_, _, rfl, a, b⟩
  | l h r => exact ⟨_, _, rfl, .inl h, r⟩
theorem RR.isN {d : PyData} {v : V} (h : RR K μ H d v) : decide (v = .non) = isNon d := by
  cases h with
  | d h => cases h <;> rfl
  | l h r => rfl
theorem RD.flat {d : PyData} {v : V} (h : RD K μ H d v) (f : c2.flatD d = true) : flatV v = true := by
  cases h <;> first | rfl | cases f
theorem RR.flat {d : PyData} {v : V} (h : RR K μ H d v) (f : c2.flatD d = true) : flatV v = true := by
  cases h with
  | d h => exact h.flat f
  | l h r => cases f
theorem RDs.flat : ∀ {ds : List PyData} {vs : List V}, RDs K μ H ds vs → ds.all c2.flatD = true → vs.all flatV = true
  | _, _, .nil, _ => rfl
  | _, _, .cons h t, c => by
    rw [List.all_cons, Bool.and_eq_true] at c ⊢
    exact ⟨h.flat c.1, RDs.flat t c.2⟩
theorem eqV_eqv {d e : PyData} {v u : V} (h : RD K μ H d v) (h' : RD K μ H e u) (f : c2.flatD d = true) (f' : c2.flatD e = true) : eqV v u = PyData.eqv d e := by
  cases h <;> cases h' <;> first | (cases f; done) | (cases f'; done) | (simp [eqV, PyData.eqv, Bool.beq_eq_decide_eq]; done) | (simp [eqV, PyData.eqv]; rename_i a b; cases a <;> cases b <;> simp <;> omega) | skip
theorem any_eqv {d : PyData} {v : V} (h : RD K μ H d v) (f : c2.flatD d = true) : ∀ {ds : List PyData} {vs : List V}, RDs K μ H ds vs → ds.all c2.flatD = true → inV v vs = ds.any fun y => PyData.eqv y d
  | _, _, .nil, _ => rfl
  | _, _, .cons q t, c => by
    rw [List.all_cons, Bool.and_eq_true] at c
    have e := any_eqv h f t c.2
    unfold inV at e ⊢
    rw [List.any_cons, List.any_cons, e, eqV_eqv q h c.1 f]
end
end DL

namespace DL
open PySem PySem.Spec PyProof.Rows L2
theorem ite_some_none_eq_some {α : Type} {p : Prop} [Decidable p] {x y : α} : ((if p then some x else none) = some y) ↔ (p ∧ x = y) := by
  by_cases h : p <;> simp [h]

def VO (K : PySem.W.Frag) (r : R2) (g : PyData → PyData → Option PyData) : Prop :=
  ∀ (μ : Mu) (S : Sto) (H : Hp) (x y : PyData) (v u : V) (z : PyData) (Q : VK), RS K μ S H → RR K μ H x v → RR K μ H y u → g x y = some z →
    (∀ H' w, Stp μ H μ H' → RS K μ S H' → RD K μ H' z w → Q w H') → r v u H Q
def tokO : O2 → Operator
  | .add => .Add | .sub => .Sub | .mul => .Mult | .fdiv => .FloorDiv | .mod => .Mod | .pow => .Pow | .shl => .LShift
def tokC : C2 → CmpOp
  | .lt => .Lt | .le => .LtE | .gt => .Gt | .ge => .GtE | .eq => .Eq | .ne => .NotEq | .is => .Is | .isnt => .IsNot | .inn => .In | .nin => .NotIn
section
variable {X : Cx}
def rCatL (K : PySem.W.Frag) : R2 := fun x y H Q => ∃ (l b : Addr) (xs zs : List V), x = .ref l ∧ y = .ref b ∧ SqL K H l xs ∧ SqL K H b zs ∧ xs.length + zs.length ≤ sizeLine ∧ ∀ p, H p = none → Q (.ref p) (upd H p (.lst (xs ++ zs)))
theorem op_catL : OpR X (binaryOp .Add) (rCatL X.K) := by
  intro pins s σ H x y v u Q I rx ry h
  obtain ⟨l, b, xs, zs, rfl, rfl, hH, hB, hz, q⟩ := h
  cases rx; cases ry
  obtain ⟨its, r, ⟨o1, n1, g1, c1, d1, e1⟩, z1⟩ := I.list hH
  obtain ⟨its2, r2, ⟨o2, n2, g2, c2, d2, e2⟩, z2⟩ := I.list hB
  have k1 := r.length
  have k2 := r2.length
  obtain ⟨a1, b1, f1, s1⟩ := o1
  obtain ⟨a2, b2, f2, s2⟩ := o2
  simp only at c1 d1 e1 c2 d2 e2
  subst c1 d1 e1 c2 d2 e2
  refine concat_meets ⟨_, g1, rfl⟩ ⟨_, g2, rfl⟩ noFill_list_add seq_list_add PySem.F.slot_list_add PySem.F.entry_list_add (PySem.F.args_list_add_2 _ _)
    (list_addW l b its.toArray its2.toArray n1 n2 none none s1 s2 (by simp only [List.size_toArray]; omega)) ⟨g1, g2, ?_⟩
  rw [show its.toArray ++ its2.toArray = (its ++ its2).toArray by simp]
  exact ⟨.ref _, _, I.lnew (t' := s.toks) (r.append r2) (by rw [List.length_append]; omega), rfl, q _ I.fresh⟩

/-! ### each operator has a rule over data -/
def cw : Nat := 100
theorem lim_line {n : Nat} (h : n ≤ LIM) : n ≤ sizeLine := Nat.le_trans h (by decide)
theorem int_vo {f : Value → Value → Sem Value} {C : Int → Int → Prop} {g : Int → Int → Int} {G : PyData → PyData → Option PyData} (h : OpR X f (rI C fun i j => .int (g i j)))
    (hg : ∀ x y z, G x y = some z → ∃ i j, x = .int i ∧ y = .int j ∧ C i j ∧ z = .int (g i j)) : OpR X f (rI C fun i j => .int (g i j)) ∧ VO X.K (rI C fun i j => .int (g i j)) G := by
  refine ⟨h, fun μ S H x y v u z Q hs hx hy e k => ?_⟩
  obtain ⟨i, j, rfl, rfl, c, rfl⟩ := hg x y z e
  exact ⟨i, j, hx.int, hy.int, c, k H _ (Stp.refl hs) hs (.int _)⟩
theorem o2_int (o : O2) (C : Int → Int → Prop) (g : Int → Int → Int) (h : OpR X (binaryOp (tokO o)) (rI C fun i j => .int (g i j)))
    (hg : ∀ x y z, o2 o x y = some z → ∃ i j, x = .int i ∧ y = .int j ∧ C i j ∧ z = .int (g i j)) : ∃ r, OpR X (binaryOp (tokO o)) r ∧ VO X.K r (o2 o) := ⟨_, int_vo h hg⟩
theorem mul_okX {i j : Int} (h : mulOk i j = true) : CMulW i j := by
  unfold CMulW
  exact of_decide_eq_true h
def CDivX (_ j : Int) : Prop := divOk j = true
theorem op_fdivX : OpR X (binaryOp .FloorDiv) (rI CDivX fun i j => .int (i.fdiv j)) := opI fun i j _ _ _ _ _ hc q => by
  have h : (decide (j ≠ 0) && decide (j.natAbs.log2 < 9000)) = true := hc
  rw [Bool.and_eq_true] at h
  exact floordiv_int (of_decide_eq_true h.1) q (.inl (PyProof.noPylong_of_log2 (of_decide_eq_true h.2)))
theorem shl_okX {i j : Int} (h : 0 ≤ j ∧ j ≤ 1000000 ∧ i.natAbs.log2 < 1000000) : CShl i j := by
  refine ⟨h.1, ?_⟩
  have b : Builtin.Int.intBits i ≤ i.natAbs.log2 + 1 := by
    unfold Builtin.Int.intBits
    split <;> omega
  omega
theorem o2_ok (o : O2) : ∃ r, OpR X (binaryOp (tokO o)) r ∧ VO X.K r (o2 o) := by
  cases o with
  | sub =>
    refine o2_int .sub (fun _ _ => True) (fun i j => i - j) (opI fun _ _ _ _ _ _ _ _ q => sub_int q) fun x y z e => ?_
    cases x <;> cases y <;> first | (simp [o2] at e; done) | (simp [o2] at e; exact ⟨_, _, rfl, rfl, trivial, e.symm⟩)
  | mul =>
    refine o2_int .mul CMulW (fun i j => i * j) op_mulW fun x y z e => ?_
    cases x <;> cases y <;> first | (simp [o2] at e; done) | (simp [o2] at e; exact ⟨_, _, rfl, rfl, mul_okX e.1, e.2.symm⟩)
  | fdiv =>
    refine o2_int .fdiv CDivX (fun i j => i.fdiv j) op_fdivX fun x y z e => ?_
    cases x <;> cases y <;> first | (simp [o2] at e; done) | (simp [o2] at e; exact ⟨_, _, rfl, rfl, e.1, e.2.symm⟩)
  | mod =>
    refine o2_int .mod (fun _ j => j ≠ 0) (fun i j => i.fmod j) op_modN fun x y z e => ?_
    cases x <;> cases y <;> first | (simp [o2] at e; done) | (simp [o2] at e; exact ⟨_, _, rfl, rfl, e.1, e.2.symm⟩)
  | pow =>
    refine o2_int .pow CPow (fun i j => i ^ j.toNat) op_pow fun x y z e => ?_
    cases x <;> cases y <;> first | (simp [o2] at e; done) | (simp only [o2, ite_some_none_eq_some] at e; exact ⟨_, _, rfl, rfl, ⟨e.1.1, by have := e.1.2.1; omega, e.1.2.2⟩, e.2.symm⟩)
  | shl =>
    refine o2_int .shl CShl (fun i j => i * 2 ^ j.toNat) op_shlW fun x y z e => ?_
    cases x <;> cases y <;> first | (simp [o2] at e; done) | (simp only [o2, ite_some_none_eq_some] at e; exact ⟨_, _, rfl, rfl, shl_okX e.1, e.2.symm⟩)
  | add =>
    refine ⟨_, (OpR.or (op_add) (OpR.or op_catA op_catL)), fun μ S H x y v u z Q hs hx hy e k => ?_⟩
    cases x <;> cases y <;> first | (simp [o2] at e; done) | skip
    · simp [o2] at e
      subst e
      exact .inl ⟨_, _, hx.int, hy.int, k H _ (Stp.refl hs) hs (.int _)⟩
    · simp [o2] at e
      obtain ⟨hl, rfl⟩ := e
      obtain ⟨a, vs, rfl, h1, r1⟩ := hx.lst
      obtain ⟨b, us, rfl, h2, r2⟩ := hy.lst
      refine .inr (.inr ⟨a, b, vs, us, rfl, rfl, .inl h1, .inl h2, lim_line (by rw [← r1.length, ← r2.length]; exact hl), fun p hp => ?_⟩)
      obtain ⟨st, rs, n⟩ := fresh_stp (o := .lst (vs ++ us)) hs hp
      exact k _ _ st rs (.lst (.inl upd_same) n.1 n.2 (RDs.stp st _ _ (r1.append r2)))
    · simp [o2] at e
      obtain ⟨hl, rfl⟩ := e
      rename_i xs ys
      obtain ⟨a, vs, rfl, h1, r1⟩ := hx.tup
      obtain ⟨b, us, rfl, h2, r2⟩ := hy.tup
      refine .inr (.inl ⟨a, b, vs, us, rfl, rfl, h1, h2, lim_line (by rw [← r1.length, ← r2.length]; exact hl), fun z => ?_, fun z z2 => ?_, fun z z2 p hp => ?_⟩)
      · subst z
        cases r1
        exact k _ _ (Stp.refl hs) hs (.tup h2 r2)
      · subst z2
        cases r2
        rw [List.append_nil] at k
        exact k _ _ (Stp.refl hs) hs (.tup h1 r1)
      · obtain ⟨st, rs, n⟩ := fresh_stp (o := .tup (vs ++ us)) hs hp
        exact k _ _ st rs (.tup (.inl (.inl upd_same)) (RDs.stp st _ _ (r1.append r2)))
theorem vb {r : R2} {g : PyData → PyData → Option Bool} (h : ∀ (μ : Mu) (S : Sto) (H : Hp) (x y : PyData) (v u : V) (b : Bool) (Q : VK), RS X.K μ S H → RR X.K μ H x v → RR X.K μ H y u → g x y = some b → Q (.bl b) H → r v u H Q) :
    VO X.K r fun x y => (g x y).map .bool := fun μ S H x y v u z Q hs hx hy e k => by
  have e : (g x y).map PyData.bool = some z := e
  cases q : g x y with
  | none => rw [q] at e; cases e
  | some b =>
    rw [q] at e
    cases e
    exact h μ S H x y v u b Q hs hx hy q (k H _ (Stp.refl hs) hs (.bl b))
theorem c2_ok (o : C2) (hu : X.A.units + 65 < cLine) : ∃ r, OpR X (compareOp (tokC o)) r ∧ VO X.K r fun x y => (c2 o x y).map .bool := by
  have hu1 : X.A.units + 64 < cLine := by omega
  cases o with
  | lt =>
    refine ⟨_, op_lt, vb fun μ S H x y v u b Q hs hx hy e q => ?_⟩
    cases x <;> cases y <;> first | (simp [c2] at e; done) | (simp [c2] at e; subst e; exact ⟨_, _, hx.int, hy.int, q⟩)
  | le =>
    refine ⟨_, op_le, vb fun μ S H x y v u b Q hs hx hy e q => ?_⟩
    cases x <;> cases y <;> first | (simp [c2] at e; done) | (simp [c2] at e; subst e; exact ⟨_, _, hx.int, hy.int, q⟩)
  | gt =>
    refine ⟨_, op_gt, vb fun μ S H x y v u b Q hs hx hy e q => ?_⟩
    cases x <;> cases y <;> first | (simp [c2] at e; done) | (simp [c2] at e; subst e; exact ⟨_, _, hx.int, hy.int, q⟩)
  | ge =>
    refine ⟨_, op_ge, vb fun μ S H x y v u b Q hs hx hy e q => ?_⟩
    cases x <;> cases y <;> first | (simp [c2] at e; done) | (simp [c2] at e; subst e; exact ⟨_, _, hx.int, hy.int, q⟩)
  | eq =>
    refine ⟨_, OpR.or op_eq (op_eqD hu1), vb fun μ S H x y v u b Q hs hx hy e q => ?_⟩
    have gen : (if eqOk x y = true then some (PyData.eqv x y) else none) = some b → (rEq v u H Q ∨ rEqD X.K v u H Q) := fun e => by
      by_cases c : eqOk x y = true
      · rw [if_pos c] at e
        cases e
        unfold eqOk at c
        rw [Bool.and_eq_true] at c
        exact .inr ⟨x, y, hx.dp c.1, hy.dp c.2, c.1, c.2, q⟩
      · rw [if_neg c] at e; cases e
    cases x <;> cases y <;> first
      | exact gen e
      | (simp only [c2, Option.some.injEq] at e
         subst e
         first
           | (have e1 := hx.int; have e2 := hy.int; subst e1 e2; exact .inl ⟨rfl, by simpa using q⟩)
           | (have e1 := hx.str; have e2 := hy.str; subst e1 e2; exact .inl ⟨rfl, by simpa using q⟩))
  | ne =>
    refine ⟨_, OpR.or op_ne (op_neD hu1), vb fun μ S H x y v u b Q hs hx hy e q => ?_⟩
    have gen : (if eqOk x y = true then some (!PyData.eqv x y) else none) = some b → (rNe v u H Q ∨ rNeD X.K v u H Q) := fun e => by
      by_cases c : eqOk x y = true
      · rw [if_pos c] at e
        cases e
        unfold eqOk at c
        rw [Bool.and_eq_true] at c
        exact .inr ⟨x, y, hx.dp c.1, hy.dp c.2, c.1, c.2, q⟩
      · rw [if_neg c] at e; cases e
    cases x <;> cases y <;> first
      | exact gen e
      | (simp only [c2, Option.some.injEq] at e
         subst e
         first
           | (have e1 := hx.int; have e2 := hy.int; subst e1 e2; exact .inl ⟨rfl, by simpa using q⟩)
           | (have e1 := hx.str; have e2 := hy.str; subst e1 e2; exact .inl ⟨rfl, by simpa using q⟩))
  | is =>
    refine ⟨_, OpR.or op_isBl op_isN, vb fun μ S H x y v u b Q hs hx hy e q => ?_⟩
    cases x <;> cases y <;> first
      | (simp [c2] at e; done)
      | (simp only [c2, Option.some.injEq] at e; subst e; exact .inl ⟨_, _, hx.bl, hy.bl, q⟩)
      | (simp only [c2, Option.some.injEq] at e; subst e; exact .inr ⟨hy.non, by rw [hx.isN]; exact q⟩)
  | isnt =>
    refine ⟨_, OpR.or op_notBl op_notN, vb fun μ S H x y v u b Q hs hx hy e q => ?_⟩
    cases x <;> cases y <;> first
      | (simp [c2] at e; done)
      | (simp only [c2, Option.some.injEq] at e; subst e; exact .inl ⟨_, _, hx.bl, hy.bl, q⟩)
      | (simp only [c2, Option.some.injEq] at e; subst e; exact .inr ⟨hy.non, by rw [hx.isN]; exact q⟩)
  | inn =>
    refine ⟨_, OpR.or op_in_seq (op_inD hu), vb fun μ S H x y v u b Q hs hx hy e q => ?_⟩
    have tupC : ∀ ys, y = .tuple ys → (if c2.flatD x = true ∧ ys.all c2.flatD = true then some (ys.any fun y => PyData.eqv y x) else none) = some b → (rIn X.K false v u H Q ∨ rInD X.K v u H Q) := fun ys ey e2 => by
      subst ey
      simp only [ite_some_none_eq_some] at e2
      obtain ⟨⟨f1, f2⟩, rfl⟩ := e2
      obtain ⟨a, vs, rfl, h1, r1⟩ := hy.tup
      have rx : RD X.K μ H x v := by cases hx with
        | d h => exact h
        | l h r => cases f1
      exact .inl ⟨a, vs, rfl, .inr h1, rx.flat f1, r1.flat f2, by rw [any_eqv rx f1 r1 f2]; exact q⟩
    have lstC : ∀ ys, y = .list ys → (if eqOk x (.list ys) = true then some (ys.any fun y => PyData.eqv y x) else none) = some b → (rIn X.K false v u H Q ∨ rInD X.K v u H Q) := fun ys ey e2 => by
      subst ey
      simp only [ite_some_none_eq_some] at e2
      obtain ⟨c, rfl⟩ := e2
      unfold eqOk at c
      rw [Bool.and_eq_true] at c
      exact .inr ⟨x, ys, hx.dp c.1, hy.dp c.2, c.1, c.2, q⟩
    cases y with
    | tuple ys => exact tupC ys rfl (by cases x <;> exact e)
    | list ys => exact lstC ys rfl (by cases x <;> exact e)
    | _ => cases x <;> simp [c2] at e
  | nin =>
    refine ⟨_, OpR.or op_notIn_seq (op_notInD hu), vb fun μ S H x y v u b Q hs hx hy e q => ?_⟩
    have tupC : ∀ ys, y = .tuple ys → (if c2.flatD x = true ∧ ys.all c2.flatD = true then some (!ys.any fun y => PyData.eqv y x) else none) = some b → (rIn X.K true v u H Q ∨ rNotInD X.K v u H Q) := fun ys ey e2 => by
      subst ey
      simp only [ite_some_none_eq_some] at e2
      obtain ⟨⟨f1, f2⟩, rfl⟩ := e2
      obtain ⟨a, vs, rfl, h1, r1⟩ := hy.tup
      have rx : RD X.K μ H x v := by cases hx with
        | d h => exact h
        | l h r => cases f1
      exact .inl ⟨a, vs, rfl, .inr h1, rx.flat f1, r1.flat f2, by rw [any_eqv rx f1 r1 f2]; exact q⟩
    have lstC : ∀ ys, y = .list ys → (if eqOk x (.list ys) = true then some (!ys.any fun y => PyData.eqv y x) else none) = some b → (rIn X.K true v u H Q ∨ rNotInD X.K v u H Q) := fun ys ey e2 => by
      subst ey
      simp only [ite_some_none_eq_some] at e2
      obtain ⟨c, rfl⟩ := e2
      unfold eqOk at c
      rw [Bool.and_eq_true] at c
      exact .inr ⟨x, ys, hx.dp c.1, hy.dp c.2, c.1, c.2, q⟩
    cases y with
    | tuple ys => exact tupC ys rfl (by cases x <;> exact e)
    | list ys => exact lstC ys rfl (by cases x <;> exact e)
    | _ => cases x <;> simp [c2] at e
end
end DL

namespace DL
open PySem PySem.Spec PyProof.Rows L2

/-! ### built-in functions over data -/
inductive RRs (K : PySem.W.Frag) (μ : Mu) (H : Hp) : List PyData → List V → Prop
  | nil : RRs K μ H [] []
  | cons {d : PyData} {v : V} {ds : List PyData} {vs : List V} : RR K μ H d v → RRs K μ H ds vs → RRs K μ H (d :: ds) (v :: vs)
def asDs : List W → Mo (List PyData)
  | [] => re []
  | w :: ws => bnd (asD w) fun x => bnd (asDs ws) fun xs => re (x :: xs)
def onDs : List W → Mo (List PyData)
  | [] => re []
  | w :: ws => bnd (onD w) fun x => bnd (onDs ws) fun xs => re (x :: xs)
section
variable {K : PySem.W.Frag} {μ : Mu} {H : Hp} {S : Sto} {α : Type} {q : Out α}
theorem bnd_assoc {α β γ : Type} (m : Mo α) (f : α → Mo β) (g : β → Mo γ) (S : Sto) : bnd (bnd m f) g S = bnd m (fun x => bnd (f x) g) S := by
  unfold bnd
  cases m S with
  | none => rfl
  | some o => cases o <;> rfl
theorem asDs_ok (hs : RS K μ S H) : ∀ {ws : List W} {vs : List V} {f : List PyData → Mo α}, RWs K μ H ws vs → bnd (asDs ws) f S = some q → ∃ xs, RRs K μ H xs vs ∧ f xs S = some q
  | _, _, f, .nil, h => ⟨[], .nil, h⟩
  | w :: ws, _, f, .cons hw t, h => by
    unfold asDs at h
    rw [bnd_assoc] at h
    obtain ⟨x, r, h⟩ := asD_ok hs hw h
    rw [bnd_assoc] at h
    obtain ⟨xs, r', h⟩ := asDs_ok hs t h
    exact ⟨x :: xs, .cons r r', h⟩
theorem onDs_ok : ∀ {ws : List W} {vs : List V} {f : List PyData → Mo α}, RWs K μ H ws vs → bnd (onDs ws) f S = some q → ∃ xs, RDs K μ H xs vs ∧ f xs S = some q
  | _, _, f, .nil, h => ⟨[], .nil, h⟩
  | w :: ws, _, f, .cons hw t, h => by
    unfold onDs at h
    rw [bnd_assoc] at h
    obtain ⟨x, r, h⟩ := onD_ok hw h
    rw [bnd_assoc] at h
    obtain ⟨xs, r', h⟩ := onDs_ok t h
    exact ⟨x :: xs, .cons r r', h⟩
theorem RDs.ints : ∀ {ns : List Int} {vs : List V}, RDs K μ H (ns.map .int) vs → vs = ns.map V.int
  | [], _, .nil => rfl
  | n :: ns, _, .cons h t => by
    cases h
    rw [RDs.ints t]
    rfl
theorem RDs.bls : ∀ {ns : List Bool} {vs : List V}, RDs K μ H (ns.map .bool) vs → vs = ns.map V.bl
  | [], _, .nil => rfl
  | n :: ns, _, .cons h t => by
    cases h
    rw [RDs.bls t]
    rfl
theorem RDs.strs : ∀ {ns : List Str} {vs : List V}, RDs K μ H (ns.map .str) vs → vs = ns.map V.str
  | [], _, .nil => rfl
  | n :: ns, _, .cons h t => by
    cases h
    rw [RDs.strs t]
    rfl
theorem RDs.ofInts : ∀ ns : List Int, RDs K μ H (ns.map .int) (ns.map V.int)
  | [] => .nil
  | n :: ns => .cons (.int n) (RDs.ofInts ns)
theorem RDs.ofStrs : ∀ ns : List Str, RDs K μ H (ns.map .str) (ns.map V.str)
  | [] => .nil
  | n :: ns => .cons (.str n) (RDs.ofStrs ns)
end
def intsOf : List PyData → Option (List Int)
  | [] => some []
  | .int i :: r => (intsOf r).map (i :: ·)
  | _ => none
def blsOf : List PyData → Option (List Bool)
  | [] => some []
  | .bool i :: r => (blsOf r).map (i :: ·)
  | _ => none
def strsOf : List PyData → Option (List Str)
  | [] => some []
  | .str i :: r => (strsOf r).map (i :: ·)
  | _ => none
theorem intsOf_eq : ∀ {xs : List PyData} {ns : List Int}, intsOf xs = some ns → xs = ns.map .int
  | [], ns, h => by cases h; rfl
  | x :: r, ns, h => by
    cases x <;> first | (simp [intsOf] at h; done) | skip
    simp only [intsOf, Option.map_eq_some_iff] at h
    obtain ⟨m, e, rfl⟩ := h
    rw [intsOf_eq e]
    rfl
theorem blsOf_eq : ∀ {xs : List PyData} {ns : List Bool}, blsOf xs = some ns → xs = ns.map .bool
  | [], ns, h => by cases h; rfl
  | x :: r, ns, h => by
    cases x <;> first | (simp [blsOf] at h; done) | skip
    simp only [blsOf, Option.map_eq_some_iff] at h
    obtain ⟨m, e, rfl⟩ := h
    rw [blsOf_eq e]
    rfl
theorem strsOf_eq : ∀ {xs : List PyData} {ns : List Str}, strsOf xs = some ns → xs = ns.map .str
  | [], ns, h => by cases h; rfl
  | x :: r, ns, h => by
    cases x <;> first | (simp [strsOf] at h; done) | skip
    simp only [strsOf, Option.map_eq_some_iff] at h
    obtain ⟨m, e, rfl⟩ := h
    rw [strsOf_eq e]
    rfl
def tyOf : PyData → String
  | .none => "NoneType" | .bool _ => "bool" | .int _ => "int" | .str _ => "str" | .list _ => "list" | .tuple _ => "tuple" | .dict _ => "dict"
def isSq : PyData → Bool
  | .tuple _ => true
  | .list _ => true
  | _ => false
def reprOk (d : PyData) : Bool := isSq d && SeqAt.shaped d && (d.showable && (d.leavesShort 2000 && decide (d.bulk ≤ 8000)))
inductive B1 where
  | len | abs | int | gcd | isqrt | max | min | divmod | all | any | sum | sortedI | sortedS | tuple | list
  deriving DecidableEq
open Classical in
noncomputable def b1 : B1 → List PyData → Option PyData
  | .len, [.tuple xs] => some (.int xs.length)
  | .len, [.list xs] => some (.int xs.length)
  | .abs, [.int i] => some (.int (if i < 0 then -i else i))
  | .int, [.int i] => some (.int i)
  | .int, [.bool k] => some (.int (if k then 1 else 0))
  | .gcd, [.int a, .int b] => some (.int ((Nat.gcd a.natAbs b.natAbs : Nat) : Int))
  | .isqrt, [.int a] => if 0 ≤ a ∧ a.natAbs.log2 < 13000 then some (.int ((Float64.isqrt a.toNat : Nat) : Int)) else none
  | .max, [.int i, .int j] => some (.int (if j > i then j else i))
  | .min, [.int i, .int j] => some (.int (if j < i then j else i))
  | .divmod, [.int i, .int j] => if 0 < j ∧ j.natAbs.log2 < 9000 then some (.tuple [.int (i / j), .int (i % j)]) else none
  | .all, [.list xs] => (blsOf xs).map fun bs => .bool (bs.all id)
  | .any, [.list xs] => (blsOf xs).map fun bs => .bool (bs.any id)
  | .sum, [.list xs] => (intsOf xs).map fun ns => .int ns.sum
  | .tuple, [.list xs] => some (.tuple xs)
  | .tuple, [.tuple xs] => some (.tuple xs)
  | .list, [.list xs] => some (.list xs)
  | .list, [.tuple xs] => some (.list xs)
  | .sortedS, [.list xs] => match strsOf xs with
    | some ss => if ss.length < 64 then (if h : ∃ ys : List Str, ys.Perm ss ∧ sortedS ys = true ∧ ∀ zs : List Str, zs.Perm ss → sortedS zs = true → zs = ys then some (.list (h.choose.map .str)) else none) else none
    | none => none
  | .sortedI, [.list xs] => match intsOf xs with
    | some ss => if ss.length < 64 then some (.list ((ss.mergeSort fun a b => decide (a ≤ b)).map .int)) else none
    | none => none
  | _, _ => none
/-- the value that stands under the name -/
def valB : B1 → Value
  | .len => .builtin "len" | .abs => .builtin "abs" | .int => .type "int" | .gcd => .builtin "math.gcd" | .isqrt => .builtin "math.isqrt" | .max => .builtin "max" | .min => .builtin "min"
  | .divmod => .builtin "divmod" | .all => .builtin "all" | .any => .builtin "any" | .sum => .builtin "sum" | .sortedI => .builtin "sorted" | .sortedS => .builtin "sorted" | .tuple => .type "tuple" | .list => .type "list"
def VC (K : PySem.W.Frag) (r : List V → Hp → VK → Prop) (g : List PyData → Option PyData) : Prop :=
  ∀ (μ : Mu) (S : Sto) (H : Hp) (xs : List PyData) (vs : List V) (z : PyData) (Q : VK), RS K μ S H → RRs K μ H xs vs → g xs = some z →
    (∀ H' w, Stp μ H μ H' → RS K μ S H' → RD K μ H' z w → Q w H') → r vs H Q
section
variable {X : Cx} {K : PySem.W.Frag} {μ : Mu} {H : Hp} {S : Sto}
theorem RRs.one {x : PyData} {vs : List V} (h : RRs K μ H [x] vs) : ∃ v, vs = [v] ∧ RR K μ H x v := by
  cases h with
  | cons a t => cases t; exact ⟨_, rfl, a⟩
theorem RRs.two {x y : PyData} {vs : List V} (h : RRs K μ H [x, y] vs) : ∃ v u, vs = [v, u] ∧ RR K μ H x v ∧ RR K μ H y u := by
  cases h with
  | cons a t => cases t with
    | cons b t => cases t; exact ⟨_, _, rfl, a, b⟩
theorem RR.ty {x : PyData} {v : V} (h : RR K μ H x v) : TyX K H v (.type (tyOf x)) := by
  cases h with
  | l a b => exact .base (.lst a)
  | d h =>
    cases h with
    | non => exact .base .non
    | bl b => exact .base (.bl b)
    | int b => exact .base (.int b)
    | str b => exact .base (.str b)
    | tup h r =>
      rcases h with (h | ⟨o, h⟩) | ⟨o, its, n, h1, h2, _⟩
      · exact .base (.tup h)
      · exact .fTuple h
      · exact .kTuple h1 h2
    | lst h _ _ r =>
      rcases h with h | ⟨o, h⟩
      · exact .base (.lst h)
      · exact .base (.frz h)
    | dct h =>
      rcases h with h | ⟨o, h⟩
      · exact .base (.dK h)
      · exact .fDict h
theorem cr_isqrt : CallR X (.builtin "math.isqrt") (fun xs H Q => ∃ a : Int, xs = [.int a] ∧ (0 ≤ a ∧ a.natAbs.log2 < 13000) ∧ Q (.int ((Float64.isqrt a.toNat : Nat) : Int)) H) := by
  intro pins s σ H vs us Q I r h
  obtain ⟨a, rfl, ⟨h0, h1⟩, q⟩ := h
  obtain ⟨u, rfl, t, rfl⟩ := Vals.one r
  have e : a.toNat = a.natAbs := by omega
  refine call_function_meets PySem.W.MGF.kind_isqrt PySem.W.MGF.plain_isqrt PySem.W.MGF.entry_isqrt (PySem.W.MGF.args_isqrt _) (PySem.W.mg_run_isqrt a t (by omega) (by rw [e]; omega) (by rw [e]; omega)).meets ?_
  exact ⟨.int _, H, I.tok _, ⟨_, rfl⟩, q⟩
theorem cr_divmodX : CallR X (.builtin "divmod") (fun xs H Q => ∃ i j : Int, xs = [.int i, .int j] ∧ (0 < j ∧ j.natAbs.log2 < 9000) ∧ ∀ p, H p = none → Q (.ref p) (upd H p (.tup [.int (i / j), .int (i % j)]))) := by
  intro pins s σ H vs us Q I r h
  obtain ⟨i, j, rfl, ⟨h0, h1⟩, q⟩ := h
  exact call_divmodW pins s σ H _ us Q I r ⟨i, j, rfl, ⟨h0, PyProof.noPylong_of_log2 h1⟩, q⟩
theorem b1_ok (b : B1) (hc : X.calm = true) : ∃ r, CallR X (valB b) r ∧ VC X.K r (b1 b) := by
  cases b with
  | len =>
    refine ⟨_, call_len_seq, fun μ S H xs vs z Q hs hx e k => ?_⟩
    unfold b1 at e
    split at e <;> first | (rename_i h; cases h; done) | (simp at e; done) | skip
    all_goals first
      | (cases e
         obtain ⟨v, rfl, r⟩ := hx.one
         obtain ⟨a, vs, rfl, h1, r1⟩ := r.tup
         exact ⟨a, vs, rfl, .inr h1, by rw [← r1.length]; exact k _ _ (Stp.refl hs) hs (.int _)⟩)
      | (cases e
         obtain ⟨v, rfl, r⟩ := hx.one
         obtain ⟨a, vs, rfl, h1, r1⟩ := r.lst
         exact ⟨a, vs, rfl, .inl (.inl h1), by rw [← r1.length]; exact k _ _ (Stp.refl hs) hs (.int _)⟩)
  | abs =>
    refine ⟨_, call_abs, fun μ S H xs vs z Q hs hx e k => ?_⟩
    unfold b1 at e
    split at e <;> first | (rename_i h; cases h; done) | (simp at e; done) | skip
    cases e
    obtain ⟨v, rfl, r⟩ := hx.one
    exact ⟨_, by rw [r.int], k _ _ (Stp.refl hs) hs (.int _)⟩
  | int =>
    refine ⟨_, call_int1, fun μ S H xs vs z Q hs hx e k => ?_⟩
    unfold b1 at e
    split at e <;> first | (rename_i h; cases h; done) | (simp at e; done) | skip
    all_goals first
      | (cases e
         obtain ⟨v, rfl, r⟩ := hx.one
         exact .inl ⟨_, by rw [r.int], k _ _ (Stp.refl hs) hs (.int _)⟩)
      | (cases e
         obtain ⟨v, rfl, r⟩ := hx.one
         exact .inr ⟨_, by rw [r.bl], k _ _ (Stp.refl hs) hs (.int _)⟩)
  | gcd =>
    refine ⟨_, cr_gcd, fun μ S H xs vs z Q hs hx e k => ?_⟩
    unfold b1 at e
    split at e <;> first | (rename_i h; cases h; done) | (simp at e; done) | skip
    cases e
    obtain ⟨v, u, rfl, r, r'⟩ := hx.two
    exact ⟨_, _, by rw [r.int, r'.int], k _ _ (Stp.refl hs) hs (.int _)⟩
  | isqrt =>
    refine ⟨_, cr_isqrt, fun μ S H xs vs z Q hs hx e k => ?_⟩
    unfold b1 at e
    split at e <;> first | (rename_i h; cases h; done) | (simp at e; done) | skip
    rw [ite_some_none_eq_some] at e
    obtain ⟨c, rfl⟩ := e
    obtain ⟨v, rfl, r⟩ := hx.one
    exact ⟨_, by rw [r.int], c, k _ _ (Stp.refl hs) hs (.int _)⟩
  | max =>
    refine ⟨_, call_max2 hc, fun μ S H xs vs z Q hs hx e k => ?_⟩
    unfold b1 at e
    split at e <;> first | (rename_i h; cases h; done) | (simp at e; done) | skip
    cases e
    obtain ⟨v, u, rfl, r, r'⟩ := hx.two
    exact ⟨_, _, by rw [r.int, r'.int], k _ _ (Stp.refl hs) hs (.int _)⟩
  | min =>
    refine ⟨_, call_min2 hc, fun μ S H xs vs z Q hs hx e k => ?_⟩
    unfold b1 at e
    split at e <;> first | (rename_i h; cases h; done) | (simp at e; done) | skip
    cases e
    obtain ⟨v, u, rfl, r, r'⟩ := hx.two
    exact ⟨_, _, by rw [r.int, r'.int], k _ _ (Stp.refl hs) hs (.int _)⟩
  | divmod =>
    refine ⟨_, cr_divmodX, fun μ S H xs vs z Q hs hx e k => ?_⟩
    unfold b1 at e
    split at e <;> first | (rename_i h; cases h; done) | (simp at e; done) | skip
    rw [ite_some_none_eq_some] at e
    obtain ⟨c, rfl⟩ := e
    obtain ⟨v, u, rfl, r, r'⟩ := hx.two
    refine ⟨_, _, by rw [r.int, r'.int], c, fun p hp => ?_⟩
    obtain ⟨st, rs, n⟩ := fresh_stp hs hp
    exact k _ _ st rs (.tup (.inl (.inl upd_same)) (.cons (.int _) (.cons (.int _) .nil)))
  | all =>
    refine ⟨_, cr_all hc, fun μ S H xs vs z Q hs hx e k => ?_⟩
    unfold b1 at e
    split at e <;> first | (rename_i h; cases h; done) | (simp at e; done) | skip
    rw [Option.map_eq_some_iff] at e
    obtain ⟨bs, e, rfl⟩ := e
    obtain ⟨v, rfl, r⟩ := hx.one
    obtain ⟨a, vs, rfl, h1, r1⟩ := r.lst
    rw [blsOf_eq e] at r1
    rw [r1.bls] at h1
    exact ⟨a, bs, rfl, .inl h1, k _ _ (Stp.refl hs) hs (.bl _)⟩
  | any =>
    refine ⟨_, cr_any hc, fun μ S H xs vs z Q hs hx e k => ?_⟩
    unfold b1 at e
    split at e <;> first | (rename_i h; cases h; done) | (simp at e; done) | skip
    rw [Option.map_eq_some_iff] at e
    obtain ⟨bs, e, rfl⟩ := e
    obtain ⟨v, rfl, r⟩ := hx.one
    obtain ⟨a, vs, rfl, h1, r1⟩ := r.lst
    rw [blsOf_eq e] at r1
    rw [r1.bls] at h1
    exact ⟨a, bs, rfl, .inl h1, k _ _ (Stp.refl hs) hs (.bl _)⟩
  | sum =>
    refine ⟨_, cr_sum hc, fun μ S H xs vs z Q hs hx e k => ?_⟩
    unfold b1 at e
    split at e <;> first | (rename_i h; cases h; done) | (simp at e; done) | skip
    rw [Option.map_eq_some_iff] at e
    obtain ⟨bs, e, rfl⟩ := e
    obtain ⟨v, rfl, r⟩ := hx.one
    obtain ⟨a, vs, rfl, h1, r1⟩ := r.lst
    rw [intsOf_eq e] at r1
    rw [r1.ints] at h1
    exact ⟨a, bs, rfl, .inl h1, k _ _ (Stp.refl hs) hs (.int _)⟩
  | sortedI =>
    refine ⟨_, cr_sorted, fun μ S H xs vs z Q hs hx e k => ?_⟩
    unfold b1 at e
    split at e <;> first | (rename_i h; cases h; done) | (simp at e; done) | skip
    split at e
    · rename_i ns en
      rw [ite_some_none_eq_some] at e
      obtain ⟨c, rfl⟩ := e
      obtain ⟨v, rfl, r⟩ := hx.one
      obtain ⟨a, vs, rfl, h1, r1⟩ := r.lst
      rw [intsOf_eq en] at r1
      rw [r1.ints] at h1
      refine ⟨a, ns, rfl, .inl h1, c, fun ns' p hp hq np => ?_⟩
      have eq : ns' = ns.mergeSort fun a b => decide (a ≤ b) := by
        refine List.Perm.eq_of_pairwise (le := fun a b : Int => a ≤ b) (fun a b _ _ x y => Int.le_antisymm x y) hq ?_ (hp.trans (List.mergeSort_perm ns _).symm)
        have := List.pairwise_mergeSort (le := fun a b : Int => decide (a ≤ b)) (fun a b c x y => by simp at x y ⊢; omega) (fun a b => by simp; omega) ns
        simpa using this
      rw [← eq] at k
      obtain ⟨st, rs, n⟩ := fresh_stp (o := .lst (ns'.map V.int)) hs np
      exact k _ _ st rs (.lst (.inl upd_same) n.1 n.2 (RDs.ofInts ns'))
    · cases e
  | sortedS =>
    refine ⟨_, cr_sortedS, fun μ S H xs vs z Q hs hx e k => ?_⟩
    unfold b1 at e
    split at e <;> first | (rename_i h; cases h; done) | (simp at e; done) | skip
    split at e
    · rename_i ns en
      by_cases c : ns.length < 64
      · rw [if_pos c] at e
        by_cases hh : ∃ ys : List Str, ys.Perm ns ∧ sortedS ys = true ∧ ∀ zs : List Str, zs.Perm ns → sortedS zs = true → zs = ys
        · rw [dif_pos hh] at e
          cases e
          obtain ⟨v, rfl, r⟩ := hx.one
          obtain ⟨a, vs, rfl, h1, r1⟩ := r.lst
          rw [strsOf_eq en] at r1
          rw [r1.strs] at h1
          refine ⟨a, ns, rfl, .inl h1, c, fun ns' p hp hq np => ?_⟩
          have eq := hh.choose_spec.2.2 ns' hp hq
          rw [← eq] at k
          obtain ⟨st, rs, n⟩ := fresh_stp (o := .lst (ns'.map V.str)) hs np
          exact k _ _ st rs (.lst (.inl upd_same) n.1 n.2 (RDs.ofStrs ns'))
        · rw [dif_neg hh] at e; cases e
      · rw [if_neg c] at e; cases e
    · cases e
  | tuple =>
    refine ⟨_, call_tuple_of, fun μ S H xs vs z Q hs hx e k => ?_⟩
    unfold b1 at e
    split at e <;> first | (rename_i h; cases h; done) | (simp at e; done) | skip
    all_goals first
      | (cases e
         obtain ⟨v, rfl, r⟩ := hx.one
         obtain ⟨a, vs, rfl, h1, r1⟩ := r.lst
         refine ⟨a, vs, rfl, .inl ⟨.inl h1, fun p hp => ?_⟩⟩
         obtain ⟨st, rs, n⟩ := fresh_stp (o := .tup vs) hs hp
         exact k _ _ st rs (.tup (.inl (.inl upd_same)) (RDs.stp st _ _ r1)))
      | (cases e
         obtain ⟨v, rfl, r⟩ := hx.one
         obtain ⟨a, vs, rfl, h1, r1⟩ := r.tup
         exact ⟨a, vs, rfl, .inr ⟨h1, k _ _ (Stp.refl hs) hs (.tup h1 r1)⟩⟩)
  | list =>
    refine ⟨_, call_list_of, fun μ S H xs vs z Q hs hx e k => ?_⟩
    unfold b1 at e
    split at e <;> first | (rename_i h; cases h; done) | (simp at e; done) | skip
    all_goals first
      | (cases e
         obtain ⟨v, rfl, r⟩ := hx.one
         obtain ⟨a, vs, rfl, h1, r1⟩ := r.lst
         refine ⟨a, vs, rfl, .inl (.inl h1), fun p hp => ?_⟩
         obtain ⟨st, rs, n⟩ := fresh_stp (o := .lst vs) hs hp
         exact k _ _ st rs (.lst (.inl upd_same) n.1 n.2 (RDs.stp st _ _ r1)))
      | (cases e
         obtain ⟨v, rfl, r⟩ := hx.one
         obtain ⟨a, vs, rfl, h1, r1⟩ := r.tup
         refine ⟨a, vs, rfl, .inr h1, fun p hp => ?_⟩
         obtain ⟨st, rs, n⟩ := fresh_stp (o := .lst vs) hs hp
         exact k _ _ st rs (.lst (.inl upd_same) n.1 n.2 (RDs.stp st _ _ r1)))
/-- isinstance(x, T), T a built-in type -/
theorem isin_ok {T : String} {b : Bool} {pins : List (Addr × Obj)} {s : Shared} {σ : L2.St} {x : PyData} {v : V} {us : List Value} {Q : VK} (I : Inv X pins σ H s) (r : Vals [v, .ty T] us) (hx : RR X.K μ H x v) (e : kitB (tyOf x) T = some b) (q : Q (.bl b) H) :
    wpAny (model X.prog X.w) X.A (call (.builtin "isinstance") us) (EP X pins σ Q) X.xe s :=
  call_isi pins s σ H _ us Q I r ⟨v, .ty T, .type (tyOf x), .type T, b, rfl, .ty T, hx.ty, kit_ty e, q⟩
end
end DL

namespace DL
open PySem PySem.Spec PyProof.Rows L2

/-! ### the code -/
inductive Pat where
  | nm (i : Nat)
  | tp (ps : List Pat)
  | sb (i : Nat) (k : Int)
inductive SK where | seq | rng1 | rng2 | enum | zip
  deriving DecidableEq
inductive Ex where
  | var (i : Nat)
  | cI (i : Int)
  | cB (b : Bool)
  | cN
  | cS (x : Str)
  | glo (g : Nat)
  | bin (o : O2) (a b : Ex)
  | neg (a : Ex)
  | cmp (o : C2) (a b : Ex)
  | chn (o o' : C2) (a b c : Ex)
  | and (es : List Ex)
  | or (es : List Ex)
  | not (a : Ex)
  | ite (t a b : Ex)
  | tup (es : List Ex)
  | lst (es : List Ex)
  | lstL (es : List Ex)
  | idx (a i : Ex)
  | slc (a : Ex) (l : Bool) (lo : Ex) (h : Bool) (hi : Ex)
  | isi (T : String) (a : Ex)
  | blt (b : B1) (es : List Ex)
  | rpr (a : Ex)
  | call (f : Nat) (es : List Ex)
  | callK (f : Nat) (n : Nat) (perm : List Nat) (es : List Ex)
  | cmpr (k : SK) (src : List Ex) (p : Pat) (cs : List Ex) (e : Ex) (own : List Nat)

/-! ### targets -/
mutual
def asg : Pat → PyData → Env' → Mo Env'
  | .nm i, x, ρ => re (ρ.set i (some (.d x)))
  | .tp ps, x, ρ => match x with
    | .tuple xs => asgs ps xs ρ
    | .list xs => asgs ps xs ρ
    | _ => no
  | .sb i k, x, ρ => fun S => match ρ[i]? with
    | some (some (.l j)) => (match S[j]? with
      | some xs => (match ixN xs.length k with
        | some m => some (.ok ρ (S.set j (xs.set m x)))
        | none => none)
      | none => none)
    | _ => none
def asgs : List Pat → List PyData → Env' → Mo Env'
  | [], [], ρ => re ρ
  | p :: ps, x :: xs, ρ => bnd (asg p x ρ) fun ρ' => asgs ps xs ρ'
  | _, _, _ => no
end
mutual
def Pat.slots : Pat → List Nat
  | .nm i => [i]
  | .tp ps => Pat.slotss ps
  | .sb _ _ => []
def Pat.slotss : List Pat → List Nat
  | [] => []
  | p :: ps => p.slots ++ Pat.slotss ps
end
/-! ### what is walked -/
def pairsUp : List PyData → List PyData → List PyData
  | x :: xs, y :: ys => .tuple [x, y] :: pairsUp xs ys
  | _, _ => []
def enumUp : Nat → List PyData → List PyData
  | _, [] => []
  | n, x :: xs => .tuple [.int n, x] :: enumUp (n + 1) xs
/-- the items, and the places of the store that must stay as they are -/
def seqOf (w : W) (S : Sto) : Option (List PyData × List Nat) := match w with
  | .d (.tuple xs) => some (xs, [])
  | .d (.list xs) => some (xs, [])
  | .l j => (S[j]?).map fun xs => (xs, [j])
  | _ => none
def lstOf (w : W) (S : Sto) : Option (List PyData × List Nat) := match w with
  | .d (.list xs) => some (xs, [])
  | .l j => (S[j]?).map fun xs => (xs, [j])
  | _ => none
def rngUp (lo : Int) (n : Nat) : List PyData := (List.range n).map fun i => .int (lo + (i : Nat))
def small62 (i : Int) : Bool := decide (-(2 ^ 62) ≤ i) && decide (i < 2 ^ 62)
def itemsOf : SK → List W → Sto → Option (List PyData × List Nat)
  | .seq, [w], S => seqOf w S
  | .rng1, [.d (.int j)], _ => if small62 j = true then some (rngUp 0 j.toNat, []) else none
  | .rng2, [.d (.int i), .d (.int j)], _ => if small62 i = true ∧ small62 j = true then some (rngUp i (j - i).toNat, []) else none
  | .enum, [w], S => (lstOf w S).map fun p => (enumUp 0 p.1, p.2)
  | .zip, [w, u], S => (lstOf w S).bind fun p => (lstOf u S).map fun q => (pairsUp p.1 q.1, p.2 ++ q.2)
  | _, _, _ => none
/-- the places stay -/
def stay (S S' : Sto) (g : List Nat) : Prop := ∀ j ∈ g, S'[j]? = S[j]?
def noexc {α : Type} (m : Mo α) : Mo α := fun S => match m S with
  | some (.ok x S') => some (.ok x S')
  | _ => none
open Classical in
noncomputable def staying {α : Type} (S0 : Sto) (g : List Nat) (m : Mo α) : Mo α := fun S => if stay S0 S g then m S else none
noncomputable def compL (a : PyData → Env' → Mo Env') (c : Env' → Mo Bool) (e : Env' → Mo W) (S0 : Sto) (g : List Nat) (ρ0 : Env') : List PyData → List PyData → Mo (List PyData)
  | [], acc => staying S0 g (re acc)
  | x :: xs, acc => staying S0 g (bnd (a x ρ0) fun ρ' => bnd (c ρ') fun b => if b = true then bnd (e ρ') fun w => bnd (onD w) fun d => compL a c e S0 g ρ0 xs (acc ++ [d]) else compL a c e S0 g ρ0 xs acc)
def wipeE (ρ : Env') : List Nat → Env'
  | [] => ρ
  | v :: vs => (wipeE ρ vs).set v none

/-! ### running expressions -/
structure Sm where
  glob : Nat → Option PyData
  call : Nat → List W → Mo W
def truthB (w : W) : Mo Bool := fun S => match w with
  | .d (.bool b) => some (.ok b S)
  | _ => none
def permW (ws : List W) : List Nat → Option (List W)
  | [] => some []
  | i :: is => match ws[i]?, permW ws is with
    | some w, some r => some (w :: r)
    | _, _ => none
def atD (x i : PyData) : Option PyData := match x, i with
  | .tuple xs, .int k => atI xs k
  | .list xs, .int k => atI xs k
  | _, _ => none
def cutD {α : Type} (xs : List α) (lo hi : Option Int) : List α := (xs.drop (HT.sIx xs.length 0 lo)).take (HT.sIx xs.length xs.length hi - HT.sIx xs.length 0 lo)
def slD (x : PyData) (lo hi : Option Int) : Option PyData := match x with
  | .tuple xs => some (.tuple (cutD xs lo hi))
  | .list xs => some (.list (cutD xs lo hi))
  | _ => none
def partO (b : Bool) (w : Mo W) : Mo (Option Int) := if b = true then bnd w (fun x => match x with
  | .d (.int i) => re (some i)
  | _ => no) else re none
mutual
noncomputable def evE (Γ : Sm) : Ex → Env' → Mo W
  | .var i, ρ => fun S => match ρ[i]? with
    | some (some w) => some (.ok w S)
    | _ => none
  | .cI i, _ => re (.d (.int i))
  | .cB i, _ => re (.d (.bool i))
  | .cN, _ => re (.d .none)
  | .cS i, _ => re (.d (.str i))
  | .glo g, _ => bnd (lift (Γ.glob g)) fun x => re (.d x)
  | .bin o a b, ρ => bnd (evE Γ a ρ) fun x => bnd (evE Γ b ρ) fun y => bnd (asD x) fun dx => bnd (asD y) fun dy => bnd (lift (o2 o dx dy)) fun z => re (.d z)
  | .neg a, ρ => bnd (evE Γ a ρ) fun x => match x with
    | .d (.int i) => re (.d (.int (-i)))
    | _ => no
  | .cmp o a b, ρ => bnd (evE Γ a ρ) fun x => bnd (evE Γ b ρ) fun y => bnd (asD x) fun dx => bnd (asD y) fun dy => bnd (lift (c2 o dx dy)) fun z => re (.d (.bool z))
  | .chn o o' a b c, ρ => bnd (evE Γ a ρ) fun x => bnd (evE Γ b ρ) fun y => bnd (asD x) fun dx => bnd (asD y) fun dy => bnd (lift (c2 o dx dy)) fun k =>
      if k = true then bnd (evE Γ c ρ) fun z => bnd (asD y) fun dy => bnd (asD z) fun dz => bnd (lift (c2 o' dy dz)) fun k' => re (.d (.bool k')) else re (.d (.bool false))
  | .and es, ρ => andE Γ es ρ
  | .or es, ρ => orE Γ es ρ
  | .not a, ρ => bnd (evE Γ a ρ) fun x => bnd (truthB x) fun k => re (.d (.bool (!k)))
  | .ite t a b, ρ => bnd (evE Γ t ρ) fun x => bnd (truthB x) fun k => if k = true then evE Γ a ρ else evE Γ b ρ
  | .tup es, ρ => bnd (evEs Γ es ρ) fun ws => bnd (onDs ws) fun xs => if xs.length ≤ LIM then re (.d (.tuple xs)) else no
  | .lst es, ρ => bnd (evEs Γ es ρ) fun ws => bnd (onDs ws) fun xs => if xs.length ≤ LIM then re (.d (.list xs)) else no
  | .lstL es, ρ => bnd (evEs Γ es ρ) fun ws => bnd (onDs ws) fun xs => if xs.length ≤ LIM then (fun S => some (.ok (.l S.length) (S ++ [xs]))) else no
  | .idx a i, ρ => bnd (evE Γ a ρ) fun x => bnd (evE Γ i ρ) fun y => bnd (asD x) fun dx => bnd (onD y) fun dy => bnd (lift (atD dx dy)) fun z => re (.d z)
  | .slc a l lo h hi, ρ => bnd (evE Γ a ρ) fun x => bnd (partO l (evE Γ lo ρ)) fun p => bnd (partO h (evE Γ hi ρ)) fun q => bnd (asD x) fun dx => bnd (lift (slD dx p q)) fun z => re (.d z)
  | .isi T a, ρ => bnd (evE Γ a ρ) fun x => bnd (asD x) fun dx => bnd (lift (kitB (tyOf dx) T)) fun k => re (.d (.bool k))
  | .blt b es, ρ => bnd (evEs Γ es ρ) fun ws => bnd (asDs ws) fun xs => bnd (lift (b1 b xs)) fun z => re (.d z)
  | .rpr a, ρ => bnd (evE Γ a ρ) fun x => bnd (asD x) fun dx => if reprOk dx = true then re (.d (.str dx.shown)) else no
  | .call f es, ρ => bnd (evEs Γ es ρ) fun ws => Γ.call f ws
  | .callK f n perm es, ρ => bnd (evEs Γ es ρ) fun ws => bnd (lift (permW ws perm)) fun us => Γ.call f us
  | .cmpr k src p cs e own, ρ => bnd (evEs Γ src ρ) fun ws => fun S => match itemsOf k ws S with
    | some (xs, g) => if xs.length ≤ LIM then (bnd (noexc (compL (asg p) (fun ρ' => cndE Γ cs ρ') (fun ρ' => evE Γ e ρ') S g (wipeE ρ own) xs [])) fun ys => re (.d (.list ys))) S else none
    | none => none
noncomputable def evEs (Γ : Sm) : List Ex → Env' → Mo (List W)
  | [], _ => re []
  | e :: es, ρ => bnd (evE Γ e ρ) fun w => bnd (evEs Γ es ρ) fun ws => re (w :: ws)
noncomputable def cndE (Γ : Sm) : List Ex → Env' → Mo Bool
  | [], _ => re true
  | c :: cs, ρ => bnd (evE Γ c ρ) fun x => bnd (truthB x) fun k => if k = true then cndE Γ cs ρ else re false
noncomputable def andE (Γ : Sm) : List Ex → Env' → Mo W
  | [], _ => no
  | [e], ρ => evE Γ e ρ
  | e :: e' :: es, ρ => bnd (evE Γ e ρ) fun x => bnd (truthB x) fun k => if k = true then andE Γ (e' :: es) ρ else re (.d (.bool false))
noncomputable def orE (Γ : Sm) : List Ex → Env' → Mo W
  | [], _ => no
  | [e], ρ => evE Γ e ρ
  | e :: e' :: es, ρ => bnd (evE Γ e ρ) fun x => bnd (truthB x) fun k => if k = true then re (.d (.bool true)) else orE Γ (e' :: es) ρ
end
end DL

namespace DL
open PySem PySem.Spec PyProof.Rows L2

/-! ### a def's promise, where no text is being shown around it -/
structure FnG (P : Program) (w : World) (K : PySem.W.Frag) (mg : Str → Option Value) (base : Heap) (CX : CXT) (k : Nat) (f : Addr) (fd : FuncData) (ps : List Str) (sp : Sp) : Prop where
  len : ∀ vs H Q E, sp vs H Q E → vs.length = ps.length
  run : ∀ (A : Around) (outer : List Env) (s : Shared) (H : Hp) (args : Args) (us : List Value) (vs : List V) (Q : VK) (E : XK), Room k A → A.guards = some [] → Env0 P w K mg base A outer s H →
    BindsTo s fd args (ps.zip us) → Vals vs us → sp vs H Q E → codeAny (model P w) A (.call (.ref f) args) (CR CX outer P w H s Q E) s
/-- how a call binds: npos positional values, keywords ks; pm tells for each parameter which of the values it takes -/
def KwTo (K : PySem.W.Frag) (fd : FuncData) (ps : List Str) (npos : Nat) (ks : List Str) (pm : List Nat) : Prop :=
  ∀ (s : Shared) (us ws vs : List Value), K.In s.heap → us.length = npos → ws.length = ks.length → pm.mapM (fun i => (us ++ ws)[i]?) = some vs → BindsTo s fd ⟨us, ks.zip ws⟩ (ps.zip vs)
section
variable {X : Cx} {CX : CXT} {k : Nat} {f : Addr} {fd : FuncData} {ps ks : List Str} {sp : Sp} {E : L2.St → XK} {x : Str} {p pos : Pos} {e : Expr} {es : List Expr} {t tk : TA} {kws : List Keyword} {npos : Nat} {pm : List Nat}
theorem run_fnG {pins : List (Addr × Obj)} {σ : L2.St} {H : Hp} {s : Shared} {Q : VK} {args : Args} {us : List Value} {vs : List V} (F : FnG X.prog X.w X.K X.mg X.base CX k f fd ps sp) (hr : Room k X.A) (hgd : X.A.guards = some [])
    (hb : BindsTo s fd args (ps.zip us)) (hx : PassesAt CX X σ (E σ)) (I : Inv X pins σ H s) (r : Vals vs us) (h : sp vs H Q (E σ)) : codeAny (model X.prog X.w) X.A (.call (.ref f) args) (fun r s' => match r with
      | .ok (.ret u) => EP X pins σ Q u s'
      | .ok _ => False
      | .error e => X.xe e s') s := by
  refine codeAny_mono (F.run X.A X.stack s H args us vs Q (E σ) hr hgd I.env0 hb r h) fun r s' hq => ?_
  cases r with
  | error e => exact hx pins H s e s' I hq
  | ok fl =>
    cases fl with
    | ret u => exact I.after hq
    | _ => exact False.elim hq
theorem call_of {f : Value} {us : List Value} {kw : List (Str × Value)} {pins : List (Addr × Obj)} {σ : L2.St} {Q : VK} {s : Shared} (h : codeAny (model X.prog X.w) X.A (.call f ⟨us, kw⟩) (fun r s' => match r with
      | .ok (.ret u) => EP X pins σ Q u s'
      | .ok _ => False
      | .error e => X.xe e s') s) : wpAny (model X.prog X.w) X.A (PySem.call f us kw) (EP X pins σ Q) X.xe s := by
  refine wpAny_call (codeAny_mono h fun r s' hq => ?_)
  cases r with
  | error e => exact hq
  | ok fl =>
    cases fl with
    | ret u => exact hq
    | _ => exact False.elim hq
theorem pe_callG (F : FnG X.prog X.w X.K X.mg X.base CX k f fd ps sp) (hr : Room k X.A) (hgd : X.A.guards = some []) (hg : Gl X x) (hm : X.mg x = some (.ref f)) (hk : PySem.W.keepIn X.K (.ref f) = true) (hb : Binds X.K fd ps []) (hx : ∀ σ, PassesAt CX X σ (E σ))
    (ha : PA X (e :: es) t) (hdb : (x == ("__debug__" : Str)) = false) (he : starEach (e :: es) X.env = (false, eval e X.env) :: starEach es X.env) (hpl : (backTo pos (starEach es X.env)).any (·.1) = false) :
    PE X (.Call (.Name x p) (e :: es) [] pos) (tCallS sp E t) := by
  refine ⟨fun pins s σ H Q I h => ?_⟩
  refine wpAny_Call_Name_kw (ld_glob I hg hm ?_ hdb)
  refine PySem.W.callWith_K (h₀ := X.base) I.ok.mod.kin hk (thn (ha.run pos pins s σ H _ I h) fun us s1 ⟨vs, H1, I1, r, q⟩ => ⟨I1.kIn, ?_⟩) he hpl
  have hl : us.length = ps.length := by rw [← r.length]; exact F.len _ _ _ _ q
  have b := hb s1 us I1.kIn (by rw [List.append_nil]; exact hl)
  rw [List.append_nil] at b
  exact call_of (run_fnG F hr hgd b (hx σ) I1 r q)
theorem vals_get {xs : List V} {us : List Value} (r : Vals xs us) : ∀ {pm : List Nat} {ys : List V}, pm.mapM (fun i => xs[i]?) = some ys → ∃ vs, pm.mapM (fun i => us[i]?) = some vs ∧ Vals ys vs
  | [], ys, h => by
    simp at h
    subst h
    exact ⟨[], by simp, .nil⟩
  | i :: pm, ys, h => by
    simp only [List.mapM_cons] at h
    cases e : xs[i]? with
    | none => simp [e] at h
    | some y =>
      cases e2 : pm.mapM (fun i => xs[i]?) with
      | none => simp [e, e2] at h
      | some r' =>
        simp [e, e2] at h
        subst h
        obtain ⟨u, hu, ru⟩ := r.get e
        obtain ⟨vs, hv, rv⟩ := vals_get r e2
        exact ⟨u :: vs, by simp [List.mapM_cons, hu, hv], .cons ru rv⟩
def tCallP (sp : Sp) (E : L2.St → XK) (npos : Nat) (ks : List Str) (pm : List Nat) (t tk : TA) : TE := fun σ H Q => t σ H fun vs H1 => tk σ H1 fun zs H2 => vs.length = npos ∧ zs.length = ks.length ∧ ∃ ys, pm.mapM (fun i => (vs ++ zs)[i]?) = some ys ∧ sp ys H2 Q (E σ)
theorem pe_callP (F : FnG X.prog X.w X.K X.mg X.base CX k f fd ps sp) (hr : Room k X.A) (hgd : X.A.guards = some []) (hg : Gl X x) (hm : X.mg x = some (.ref f)) (hk : PySem.W.keepIn X.K (.ref f) = true) (hb : KwTo X.K fd ps npos ks pm) (hx : ∀ σ, PassesAt CX X σ (E σ))
    (ha : PA X (e :: es) t) (hkw : PK X kws tk) (hall : (backToKw pos (keywordEach kws X.env)).all (·.1.isSome) = true) (hks : (backToKw pos (keywordEach kws X.env)).filterMap (·.1) = ks)
    (hdb : (x == ("__debug__" : Str)) = false) (he : starEach (e :: es) X.env = (false, eval e X.env) :: starEach es X.env)
    (hpl : ((backTo pos (starEach (e :: es) X.env)).any (·.1) || (backToKw pos (keywordEach kws X.env)).any (·.1.isNone)) = false) :
    PE X (.Call (.Name x p) (e :: es) kws pos) (tCallP sp E npos ks pm t tk) := by
  refine ⟨fun pins s σ H Q I h => ?_⟩
  refine wpAny_Call_Name_kw (ld_glob I hg hm ?_ hdb)
  refine PySem.W.callWith_KW (h₀ := X.base) I.ok.mod.kin hk hall (thn (ha.run pos pins s σ H _ I h) fun us s1 ⟨vs, H1, I1, r, q⟩ => ?_) hpl he
  refine thn (hkw.run pos pins s1 σ H1 _ I1 q) fun ws s2 ⟨zs, H2, I2, rz, l1, l2, ys, q1, q2⟩ => ⟨I2.kIn, ?_⟩
  rw [hks]
  obtain ⟨us', e1, r1⟩ := vals_get (r.append rz) q1
  exact call_of (run_fnG F hr hgd (hb s2 us ws us' I2.kIn (r.length.symm.trans l1) (rz.length.symm.trans l2) e1) (hx σ) I2 r1 q2)
theorem pe_callP0 (F : FnG X.prog X.w X.K X.mg X.base CX k f fd ps sp) (hr : Room k X.A) (hgd : X.A.guards = some []) (hg : Gl X x) (hm : X.mg x = some (.ref f)) (hk : PySem.W.keepIn X.K (.ref f) = true) (hb : KwTo X.K fd ps 0 ks pm) (hx : ∀ σ, PassesAt CX X σ (E σ))
    (hkw : PK X kws tk) (hall : (backToKw pos (keywordEach kws X.env)).all (·.1.isSome) = true) (hks : (backToKw pos (keywordEach kws X.env)).filterMap (·.1) = ks)
    (hdb : (x == ("__debug__" : Str)) = false) (hpl : ((backTo pos (starEach [] X.env)).any (·.1) || (backToKw pos (keywordEach kws X.env)).any (·.1.isNone)) = false) :
    PE X (.Call (.Name x p) [] kws pos) (tCallP sp E 0 ks pm tNil tk) := by
  refine ⟨fun pins s σ H Q I h => ?_⟩
  refine wpAny_Call_Name_kw (ld_glob I hg hm ?_ hdb)
  refine PySem.W.callWith_KW0 (h₀ := X.base) I.ok.mod.kin hk hall ?_ hpl
  refine thn (hkw.run pos pins s σ H _ I h) fun ws s2 ⟨zs, H2, I2, rz, l1, l2, ys, q1, q2⟩ => ⟨I2.kIn, ?_⟩
  rw [hks]
  obtain ⟨us', e1, r1⟩ := vals_get rz q1
  exact call_of (run_fnG F hr hgd (hb s2 [] ws us' I2.kIn rfl (rz.length.symm.trans l2) e1) (hx σ) I2 r1 q2)
end

/-! ### of the text -/
def nst : Expr → Bool
  | .Starred _ _ => false
  | _ => true
theorem star_cons {e : Expr} {es : List Expr} {env : Env} (h : nst e = true) : starEach (e :: es) env = (false, eval e env) :: starEach es env := by
  cases e <;> first | rfl | cases h
theorem star_any {env : Env} {pos : Pos} : ∀ {es : List Expr}, es.all nst = true → (backTo pos (starEach es env)).any (·.1) = false
  | [], _ => rfl
  | e :: es, h => by
    rw [List.all_cons, Bool.and_eq_true] at h
    rw [star_cons h.1]
    have := star_any (env := env) (pos := pos) h.2
    unfold backTo at this ⊢
    rw [List.map_cons, List.any_cons, this]
    rfl
def kwn : List Keyword → List Str
  | [] => []
  | ⟨some n, _, _⟩ :: r => n :: kwn r
  | ⟨none, _, _⟩ :: r => kwn r
def kwv : List Keyword → List Expr
  | [] => []
  | ⟨_, e, _⟩ :: r => e :: kwv r
def kwS : List Keyword → Bool
  | [] => true
  | ⟨n, _, _⟩ :: r => n.isSome && kwS r
theorem kw_facts {env : Env} {pos : Pos} : ∀ {kws : List Keyword}, kwS kws = true → (backToKw pos (keywordEach kws env)).all (·.1.isSome) = true ∧ (backToKw pos (keywordEach kws env)).filterMap (·.1) = kwn kws ∧ (backToKw pos (keywordEach kws env)).any (·.1.isNone) = false
  | [], _ => ⟨rfl, rfl, rfl⟩
  | ⟨n, e, kp⟩ :: r, h => by
    unfold kwS at h
    rw [Bool.and_eq_true] at h
    obtain ⟨h1, h2⟩ := h
    obtain ⟨a, b, c⟩ := kw_facts (env := env) (pos := pos) (kws := r) h2
    cases n with
    | none => cases h1
    | some n =>
      unfold backToKw at a b c ⊢
      refine ⟨?_, ?_, ?_⟩
      · show ((true && _) : Bool) = true
        rw [Bool.true_and]; exact a
      · show n :: _ = n :: _
        exact congrArg _ b
      · show ((false || _) : Bool) = false
        rw [Bool.false_or]; exact c
/-- the test of it is its value's truth -/
def plT : Expr → Bool
  | .UnaryOp .Not _ _ => false
  | .BoolOp _ _ _ => false
  | .IfExp _ _ _ _ => false
  | .Compare _ _ _ _ => false
  | _ => true
theorem plT_eq {e : Expr} {env : Env} (h : plT e = true) : ∀ whole, isTrue e env whole = (do let v ← whole; standAt e.pos; holding [v] (truthy v)) := by
  intro whole
  cases e <;> first | rfl | cases h | skip
  all_goals (rename_i op a p; cases op <;> first | rfl | cases h)
def plIx : Expr → Bool
  | .Slice _ _ none _ => false
  | _ => true
theorem plIx_eq {e : Expr} (h : plIx e = true) : PlainIx e := by
  intro o i
  cases e <;> first | rfl | skip
  rename_i lo hi st p
  cases st with
  | none => cases h
  | some z => rfl
def nset : Expr → Bool
  | .Set _ _ _ => false
  | _ => true
theorem nset_eq {e : Expr} {env : Env} (h : nset e = true) : ∀ x, foldedSetIterable e env x = pure x := by
  intro x
  cases e <;> first | rfl | cases h
theorem nset_in {e : Expr} {op : CmpOp} (h : nset e = true) : behindInMarks op e = false := by
  cases e <;> first | rfl | cases h
def ncmp : Expr → Bool
  | .ListComp _ _ _ _ => false
  | .SetComp _ _ _ _ => false
  | .DictComp _ _ _ _ _ => false
  | _ => true
theorem ncmp_eq {e : Expr} {t : Option Expr} {l : Nat} {env : Env} (h : ncmp e = true) : swapsWith e t l env = pure false := by
  cases e <;> first | rfl | cases h
end DL

namespace DL
open PySem PySem.Spec PyProof.Rows L2

/-! ### what is walked, over data -/
def Liv (K : PySem.W.Frag) (J : It) (xs : List PyData) (S0 : Sto) (g : List Nat) (μ0 : Mu) (H0 : Hp) : Prop :=
  ∀ (μ : Mu) (S : Sto) (H : Hp), Stp μ0 H0 μ H → RS K μ S H → stay S0 S g →
    (∀ i d, xs[i]? = some d → J.go i H ∧ ∀ x H', J.yld i H x H' → Stp μ H μ H' ∧ RS K μ S H' ∧ RD K μ H' d x) ∧ J.stop xs.length H
section
variable {K : PySem.W.Frag} {xr : XRel} {Wx : WX} {μ : Mu} {H : Hp} {S : Sto}
theorem liv_tup {a : Addr} {vs : List V} {xs : List PyData} (h : SqT K H a vs) (r : RDs K μ H xs vs) (hs : RS K μ S H) : Liv K (Itt K a) xs S [] μ H := fun μ' S' H' st rs _ => by
  have q := st.sqT h
  have r' := RDs.stp st xs vs r
  refine ⟨fun i d e => ?_, ⟨vs, q, by rw [r.length]; exact Nat.le_refl _⟩⟩
  obtain ⟨v, e1, rd⟩ := r'.get e
  refine ⟨⟨vs, v, q, e1⟩, fun x H2 y => ?_⟩
  obtain ⟨rfl, y⟩ := y
  have e2 := y vs q
  rw [e1] at e2; cases e2
  exact ⟨Stp.refl rs, rs, rd⟩
theorem liv_lst {a : Addr} {vs : List V} {xs : List PyData} (h : Rd H a (.lst vs)) (n : a ∉ μ.l) (r : RDs K μ H xs vs) (hs : RS K μ S H) : Liv K (Itl K a) xs S [] μ H := fun μ' S' H' st rs _ => by
  have q : SqL K H' a vs := .inl (st.rdL h n)
  have r' := RDs.stp st xs vs r
  refine ⟨fun i d e => ?_, ⟨vs, q, by rw [r.length]; exact Nat.le_refl _⟩⟩
  obtain ⟨v, e1, rd⟩ := r'.get e
  refine ⟨⟨vs, v, q, e1⟩, fun x H2 y => ?_⟩
  obtain ⟨rfl, y⟩ := y
  have e2 := y vs q
  rw [e1] at e2; cases e2
  exact ⟨Stp.refl rs, rs, rd⟩
theorem loc_at {j : Nat} {a : Addr} {xs : List PyData} {μ' : Mu} {S' : Sto} {H' : Hp} (st : Stp μ H μ' H') (rs : RS K μ' S' H') (sy : stay S S' [j]) (ha : μ.l[j]? = some a) (hx : S[j]? = some xs) : ∃ vs, H' a = some (.lst vs) ∧ RDs K μ' H' xs vs := by
  have e : S'[j]? = some xs := by rw [sy j (by simp)]; exact hx
  have ha' : μ'.l[j]? = some a := by
    obtain ⟨t, z⟩ := st.pre
    rw [z, List.getElem?_append_left (List.getElem?_eq_some_iff.mp ha).1]
    exact ha
  exact rs.at_ j a xs ha' e
theorem liv_loc {j : Nat} {a : Addr} {xs : List PyData} (ha : μ.l[j]? = some a) (hx : S[j]? = some xs) (hs : RS K μ S H) : Liv K (Itl K a) xs S [j] μ H := fun μ' S' H' st rs sy => by
  obtain ⟨vs, q, r'⟩ := loc_at st rs sy ha hx
  have q : SqL K H' a vs := .inl (.inl q)
  refine ⟨fun i d e => ?_, ⟨vs, q, by rw [r'.length]; exact Nat.le_refl _⟩⟩
  obtain ⟨v, e1, rd⟩ := r'.get e
  refine ⟨⟨vs, v, q, e1⟩, fun x H2 y => ?_⟩
  obtain ⟨rfl, y⟩ := y
  have e2 := y vs q
  rw [e1] at e2; cases e2
  exact ⟨Stp.refl rs, rs, rd⟩
theorem liv_rng {lo : Int} {n : Nat} (hs : RS K μ S H) : Liv K (Itr lo n) (rngUp lo n) S [] μ H := fun μ' S' H' st rs _ => by
  refine ⟨fun i d e => ?_, by show n ≤ (rngUp lo n).length; simp [rngUp]⟩
  unfold rngUp at e
  rw [List.getElem?_map] at e
  by_cases hi : i < n
  · rw [List.getElem?_range hi] at e
    cases e
    refine ⟨hi, fun x H2 y => ?_⟩
    obtain ⟨rfl, rfl⟩ := y
    exact ⟨Stp.refl rs, rs, .int _⟩
  · rw [List.getElem?_eq_none (by simpa using hi)] at e
    cases e
/-- a list that is walked beside others: data, or one of the store -/
inductive LV (K : PySem.W.Frag) (μ : Mu) (S : Sto) (H : Hp) (a : Addr) (xs : List PyData) : List Nat → Prop
  | d {vs : List V} : Rd H a (.lst vs) → a ∉ μ.l → RDs K μ H xs vs → LV K μ S H a xs []
  | l {j : Nat} : μ.l[j]? = some a → S[j]? = some xs → LV K μ S H a xs [j]
theorem LV.now {a : Addr} {xs : List PyData} {g : List Nat} (h : LV K μ S H a xs g) {μ' : Mu} {S' : Sto} {H' : Hp} (st : Stp μ H μ' H') (rs : RS K μ' S' H') (sy : stay S S' g) : ∃ vs, SqL K H' a vs ∧ RDs K μ' H' xs vs := by
  cases h with
  | d h n r => exact ⟨_, .inl (st.rdL h n), RDs.stp st xs _ r⟩
  | l h1 h2 =>
    obtain ⟨vs, q, r⟩ := loc_at st rs sy h1 h2
    exact ⟨vs, .inl (.inl q), r⟩
theorem lv_of {w : W} {v : V} {xs : List PyData} {g : List Nat} (hw : RW K μ H w v) (h : lstOf w S = some (xs, g)) : ∃ a, v = .ref a ∧ LV K μ S H a xs g := by
  cases w with
  | d x =>
    cases x <;> first | (simp [lstOf] at h; done) | skip
    simp only [lstOf, Option.some.injEq, Prod.mk.injEq] at h
    obtain ⟨rfl, rfl⟩ := h
    cases hw with
    | lst h n _ r => exact ⟨_, rfl, .d h n r⟩
  | l j =>
    simp only [lstOf, Option.map_eq_some_iff, Prod.mk.injEq] at h
    obtain ⟨ys, e, rfl, rfl⟩ := h
    obtain ⟨a, ha, rfl⟩ := hw
    exact ⟨a, rfl, .l ha e⟩
theorem enumUp_get : ∀ {xs : List PyData} {n i : Nat} {d : PyData}, (enumUp n xs)[i]? = some d → ∃ x, xs[i]? = some x ∧ d = .tuple [.int ((n + i : Nat) : Int), x]
  | [], _, _, _, h => by simp [enumUp] at h
  | x :: xs, n, 0, d, h => by
    simp [enumUp] at h
    exact ⟨x, rfl, by rw [← h]; simp⟩
  | x :: xs, n, i + 1, d, h => by
    simp only [enumUp, List.getElem?_cons_succ] at h
    obtain ⟨y, e, q⟩ := enumUp_get h
    exact ⟨y, by simpa using e, by rw [q]; congr 3; omega⟩
theorem enumUp_len : ∀ (xs : List PyData) (n : Nat), (enumUp n xs).length = xs.length
  | [], _ => rfl
  | x :: xs, n => by simp [enumUp, enumUp_len xs]
theorem pairsUp_get : ∀ {xs ys : List PyData} {i : Nat} {d : PyData}, (pairsUp xs ys)[i]? = some d → ∃ x y, xs[i]? = some x ∧ ys[i]? = some y ∧ d = .tuple [x, y]
  | [], _, _, _, h => by simp [pairsUp] at h
  | _ :: _, [], _, _, h => by simp [pairsUp] at h
  | x :: xs, y :: ys, 0, d, h => by
    simp [pairsUp] at h
    exact ⟨x, y, rfl, rfl, h.symm⟩
  | x :: xs, y :: ys, i + 1, d, h => by
    simp only [pairsUp, List.getElem?_cons_succ] at h
    obtain ⟨u, v, e, q⟩ := pairsUp_get h
    exact ⟨u, v, by simpa using e, by simpa using q⟩
theorem pairsUp_len : ∀ (xs ys : List PyData), (pairsUp xs ys).length = min xs.length ys.length
  | [], _ => by simp [pairsUp]
  | _ :: _, [] => by simp [pairsUp]
  | x :: xs, y :: ys => by simp [pairsUp, pairsUp_len xs ys]
theorem liv_enum {a : Addr} {xs : List PyData} {g : List Nat} (h : LV K μ S H a xs g) : Liv K (Ite K a) (enumUp 0 xs) S g μ H := fun μ' S' H' st rs sy => by
  obtain ⟨vs, q, r⟩ := h.now st rs sy
  refine ⟨fun i d e => ?_, ⟨vs, q, by rw [enumUp_len, r.length]; exact Nat.le_refl _⟩⟩
  obtain ⟨x, e1, rfl⟩ := enumUp_get e
  obtain ⟨v, e2, rd⟩ := r.get e1
  refine ⟨⟨vs, v, q, e2⟩, fun z H2 y => ?_⟩
  obtain ⟨T, u, rfl, hT, rfl, y⟩ := y
  have e3 := y vs q
  rw [e2] at e3; cases e3
  obtain ⟨s2, rs2, n2⟩ := fresh_stp (o := .tup [.int (i : Nat), v]) rs hT
  refine ⟨s2, rs2, .tup (.inl (.inl upd_same)) (.cons ?_ (.cons (RD.stp s2 _ _ rd) .nil))⟩
  rw [Nat.zero_add]
  exact .int _
theorem liv_zip {a b : Addr} {xs ys : List PyData} {g g' : List Nat} (h : LV K μ S H a xs g) (h' : LV K μ S H b ys g') : Liv K (Itz K a b) (pairsUp xs ys) S (g ++ g') μ H := fun μ' S' H' st rs sy => by
  obtain ⟨vs, q, r⟩ := h.now st rs fun j hj => sy j (List.mem_append_left _ hj)
  obtain ⟨us, q', r'⟩ := h'.now st rs fun j hj => sy j (List.mem_append_right _ hj)
  refine ⟨fun i d e => ?_, ⟨vs, us, q, q', by rw [pairsUp_len, r.length, r'.length]; omega⟩⟩
  obtain ⟨x, y, e1, e1', rfl⟩ := pairsUp_get e
  obtain ⟨v, e2, rd⟩ := r.get e1
  obtain ⟨u, e2', rd'⟩ := r'.get e1'
  refine ⟨⟨vs, us, v, u, q, q', e2, e2'⟩, fun z H2 y => ?_⟩
  obtain ⟨T, v2, u2, rfl, hT, rfl, y, y'⟩ := y
  have e3 := y vs q
  rw [e2] at e3; cases e3
  have e4 := y' us q'
  rw [e2'] at e4; cases e4
  obtain ⟨s2, rs2, n2⟩ := fresh_stp (o := .tup [v, u]) rs hT
  exact ⟨s2, rs2, .tup (.inl (.inl upd_same)) (.cons (RD.stp s2 _ _ rd) (.cons (RD.stp s2 _ _ rd') .nil))⟩
end

def tI (K : PySem.W.Frag) (xr : XRel) (Wx : WX) (k : SK) (m : Env' → Mo (List W)) : TI := fun σ H R => ∃ μ ρ S r, RS K μ S H ∧ RE K μ H ρ σ ∧ m ρ S = some r ∧ match r with
  | .ok ws S1 => ∃ xs g, itemsOf k ws S1 = some (xs, g) ∧ ∀ μ1 H1 J, Stp μ H μ1 H1 → RS K μ1 S1 H1 → Liv K J xs S1 g μ1 H1 → R J H1
  | .exc k a S' => ∀ μ' H' c d, Stp μ H μ' H' → RS K μ' S' H' → xr k a μ' H' c d → Wx c d σ H'
theorem PIw {X : Cx} {tg e : Expr} {t t' : TI} (h : PI X tg e t) (w : ∀ σ H R, t' σ H R → t σ H R) : PI X tg e t' := ⟨fun pins s σ H R I q => h.run pins s σ H R I (w _ _ _ q)⟩
section
variable {X : Cx} {xr : XRel} {Wx : WX} {tg e e' : Expr} {m : Env' → Mo W} {ms : Env' → Mo (List W)} {p pos : Pos}
/-- over a list or a tuple -/
def iSq (K : PySem.W.Frag) (tl : TE) : TI := fun σ H R => tl σ H fun x H1 => ∃ a, x = .ref a ∧ ((∃ xs, SqL K H1 a xs ∧ R (Itl K a) H1) ∨ ∃ xs, SqT K H1 a xs ∧ R (Itt K a) H1)
theorem pi_sq {tl : TE} (hl : PE X e tl) : PI X tg e (iSq X.K tl) := by
  refine ⟨fun pins s σ H R I h => ?_⟩
  refine thn (hl.run pins s σ H _ I h) fun v s1 ⟨x, H1, I1, r1, q1⟩ => ?_
  obtain ⟨a, ea, q⟩ := q1
  subst ea
  cases r1
  rcases q with ⟨xs, hq, q⟩ | ⟨xs, hq, q⟩
  · obtain ⟨its, rv, pl, hz⟩ := I1.list hq
    refine wpAny_pyIter_list pl.isList ⟨s1.heap.objs.size, [s1.heap.objs.size], _, _, H1, rfl, I1.kept (t' := s1.toks) fun b o e => Heap.get?_push_of_some _ e, turn_list a _, ⟨_, Heap.get?_push_size _ rfl, rfl, rfl⟩, fun b hb => ?_, q⟩
    obtain rfl : b = s1.heap.objs.size := by simpa using hb
    exact I1.fpOk (Nat.le_refl _) (I1.hok.fresh (Nat.le_refl _))
  · obtain ⟨its, rv, pl, hz⟩ := I1.tuple hq
    refine wpAny_pyIter_tuple (show s1.heap.IsTuple a its.toArray from pl) ⟨s1.heap.objs.size, [s1.heap.objs.size], _, _, H1, rfl, I1.kept (t' := s1.toks) fun b o e => Heap.get?_push_of_some _ e, turn_tuple a _, ⟨_, Heap.get?_push_size _ rfl, rfl, rfl⟩, fun b hb => ?_, q⟩
    obtain rfl : b = s1.heap.objs.size := by simpa using hb
    exact I1.fpOk (Nat.le_refl _) (I1.hok.fresh (Nat.le_refl _))
abbrev one (m : Env' → Mo W) : Env' → Mo (List W) := fun ρ => bnd (m ρ) fun w => bnd (re []) fun ws => re (w :: ws)
theorem i_seq (he : PE X e (tE X.K xr Wx m)) : PI X tg e (tI X.K xr Wx .seq (one m)) := PIw (pi_sq he) fun σ H R h => by
  obtain ⟨μ, ρ, S, r, hs, hr, hm, q⟩ := h
  unfold one bnd at hm
  cases e1 : m ρ S with
  | none => rw [e1] at hm; cases hm
  | some o =>
    rw [e1] at hm
    cases o with
    | exc k a S' =>
      cases hm
      exact ⟨μ, ρ, S, _, hs, hr, e1, q⟩
    | ok w S1 =>
      cases hm
      obtain ⟨xs, g, ei, q⟩ := q
      refine ⟨μ, ρ, S, _, hs, hr, e1, fun μ1 H1 v st rs rw_ => ?_⟩
      have ei : seqOf w S1 = some (xs, g) := ei
      cases w with
      | d x =>
        have hw : RD X.K μ1 H1 x v := rw_
        cases x <;> first | (simp [seqOf] at ei; done) | skip
        all_goals
          simp only [seqOf, Option.some.injEq, Prod.mk.injEq] at ei
          obtain ⟨rfl, rfl⟩ := ei
        · cases hw with
          | lst h n _ r => exact ⟨_, rfl, .inl ⟨_, .inl h, q _ _ _ st rs (liv_lst h n r rs)⟩⟩
        · cases hw with
          | tup h r => exact ⟨_, rfl, .inr ⟨_, h, q _ _ _ st rs (liv_tup h r rs)⟩⟩
      | l j =>
        simp only [seqOf, Option.map_eq_some_iff, Prod.mk.injEq] at ei
        obtain ⟨ys, e2, rfl, rfl⟩ := ei
        obtain ⟨a, ha, rfl⟩ := rw_
        obtain ⟨vs, h1, h2⟩ := rs.at_ j a ys ha e2
        exact ⟨a, rfl, .inl ⟨vs, .inl (.inl h1), q _ _ _ st rs (liv_loc ha e2 rs)⟩⟩
theorem i_args {k : SK} {Z : List V → Hp → (It → Hp → Prop) → Prop} (hZ : ∀ (μ : Mu) (S : Sto) (H : Hp) (ws : List W) (vs : List V) (xs : List PyData) (g : List Nat) (R : It → Hp → Prop), RS X.K μ S H → RWs X.K μ H ws vs → itemsOf k ws S = some (xs, g) →
    (∀ J, Liv X.K J xs S g μ H → R J H) → Z vs H R) (σ : L2.St) (H : Hp) (R : It → Hp → Prop) (h : tI X.K xr Wx k ms σ H R) : tA X.K xr Wx ms σ H fun vs H1 => Z vs H1 R := by
  obtain ⟨μ, ρ, S, r, hs, hr, hm, q⟩ := h
  refine ⟨μ, ρ, S, r, hs, hr, hm, ?_⟩
  cases r with
  | exc k a S' => exact q
  | ok ws S1 =>
    obtain ⟨xs, g, ei, q⟩ := q
    exact fun μ1 H1 vs st rs rw_ => hZ μ1 S1 H1 ws vs xs g R rs rw_ ei fun J l => q μ1 H1 J st rs l
theorem RWs.one' {K : PySem.W.Frag} {μ : Mu} {H : Hp} {w : W} {vs : List V} (h : RWs K μ H [w] vs) : ∃ v, vs = [v] ∧ RW K μ H w v := by
  cases h with
  | cons a t => cases t; exact ⟨_, rfl, a⟩
theorem RWs.two' {K : PySem.W.Frag} {μ : Mu} {H : Hp} {w u : W} {vs : List V} (h : RWs K μ H [w, u] vs) : ∃ v z, vs = [v, z] ∧ RW K μ H w v ∧ RW K μ H u z := by
  cases h with
  | cons a t => cases t with
    | cons b t => cases t; exact ⟨_, _, rfl, a, b⟩
theorem small_of {j : Int} (h : small62 j = true) : -(2 ^ 62) ≤ j ∧ j < 2 ^ 62 := by
  unfold small62 at h
  rw [Bool.and_eq_true] at h
  exact ⟨of_decide_eq_true h.1, of_decide_eq_true h.2⟩
theorem i_rng1 (hg : Gl X "range") (hm : X.mg "range" = none) (ha : PA X [e] (tA X.K xr Wx ms)) (hn : nst e = true) : PI X tg (.Call (.Name "range" p) [e] [] pos) (tI X.K xr Wx .rng1 ms) :=
  PIw (pi_range1 hg hm ha (star_cons hn)) fun σ H R h => i_args (Z := fun vs H1 R => ∃ j : Int, vs = [.int j] ∧ -(2 ^ 62) ≤ j ∧ j < 2 ^ 62 ∧ R (Itr 0 j.toNat) H1) (fun μ S H ws vs xs g R rs rw_ ei q => by
    unfold itemsOf at ei
    split at ei <;> first | (rename_i hh; cases hh; done) | (simp at ei; done) | skip
    rw [ite_some_none_eq_some] at ei
    obtain ⟨c, ei⟩ := ei
    cases ei
    obtain ⟨v, rfl, hw⟩ := rw_.one'
    have hw : RD X.K μ H _ v := hw
    cases hw
    exact ⟨_, rfl, (small_of c).1, (small_of c).2, q _ (liv_rng rs)⟩) σ H R h
theorem i_rng2 (hg : Gl X "range") (hm : X.mg "range" = none) (ha : PA X [e, e'] (tA X.K xr Wx ms)) (hn : nst e = true) (hn' : nst e' = true) : PI X tg (.Call (.Name "range" p) [e, e'] [] pos) (tI X.K xr Wx .rng2 ms) :=
  PIw (pi_range2 hg hm ha (by rw [star_cons hn, star_cons hn']; rfl) (star_cons hn')) fun σ H R h => i_args (Z := fun vs H1 R => ∃ i j : Int, vs = [.int i, .int j] ∧ (-(2 ^ 62) ≤ i ∧ i < 2 ^ 62 ∧ -(2 ^ 62) ≤ j ∧ j < 2 ^ 62) ∧ R (Itr i (j - i).toNat) H1) (fun μ S H ws vs xs g R rs rw_ ei q => by
    unfold itemsOf at ei
    split at ei <;> first | (rename_i hh; cases hh; done) | (simp at ei; done) | skip
    rw [ite_some_none_eq_some] at ei
    obtain ⟨c, ei⟩ := ei
    cases ei
    obtain ⟨v, u, rfl, hw, hu⟩ := rw_.two'
    have hw : RD X.K μ H _ v := hw
    have hu : RD X.K μ H _ u := hu
    cases hw
    cases hu
    exact ⟨_, _, rfl, ⟨(small_of c.1).1, (small_of c.1).2, (small_of c.2).1, (small_of c.2).2⟩, q _ (liv_rng rs)⟩) σ H R h
theorem i_enum {elts : List Expr} {kk : Nat} {tpos : Pos} (hg : Gl X "enumerate") (hm : X.mg "enumerate" = none) (ha : PA X [e] (tA X.K xr Wx ms)) (hn : nst e = true) : PI X (.Tuple elts kk tpos) (.Call (.Name "enumerate" p) [e] [] pos) (tI X.K xr Wx .enum ms) :=
  PIw (pi_enum hg hm ha (star_cons hn)) fun σ H R h => i_args (Z := fun vs H1 R => ∃ a xs, vs = [.ref a] ∧ SqL X.K H1 a xs ∧ R (Ite X.K a) H1) (fun μ S H ws vs xs g R rs rw_ ei q => by
    unfold itemsOf at ei
    split at ei <;> first | (rename_i hh; cases hh; done) | (simp at ei; done) | skip
    simp only [Option.map_eq_some_iff, Prod.mk.injEq] at ei
    obtain ⟨⟨ys, g'⟩, e1, rfl, rfl⟩ := ei
    obtain ⟨v, rfl, hw⟩ := rw_.one'
    obtain ⟨a, rfl, lv⟩ := lv_of hw e1
    obtain ⟨vs, q1, _⟩ := lv.now (Stp.refl rs) rs fun _ _ => rfl
    exact ⟨a, vs, rfl, q1, q _ (liv_enum lv)⟩) σ H R h
theorem i_zip {elts : List Expr} {kk : Nat} {tpos : Pos} (hg : Gl X "zip") (hm : X.mg "zip" = none) (ha : PA X [e, e'] (tA X.K xr Wx ms)) (hn : nst e = true) (hn' : nst e' = true) : PI X (.Tuple elts kk tpos) (.Call (.Name "zip" p) [e, e'] [] pos) (tI X.K xr Wx .zip ms) :=
  PIw (pi_zip hg hm ha (star_cons hn) (star_any (by simp [hn']))) fun σ H R h => i_args (Z := fun vs H1 R => ∃ a b xs ys, vs = [.ref a, .ref b] ∧ SqL X.K H1 a xs ∧ SqL X.K H1 b ys ∧ R (Itz X.K a b) H1) (fun μ S H ws vs xs g R rs rw_ ei q => by
    unfold itemsOf at ei
    split at ei <;> first | (rename_i hh; cases hh; done) | (simp at ei; done) | skip
    simp only [Option.map_eq_some_iff, Option.bind_eq_some_iff, Prod.mk.injEq] at ei
    obtain ⟨⟨ys, g'⟩, e1, ⟨zs, g''⟩, e2, rfl, rfl⟩ := ei
    obtain ⟨v, u, rfl, hw, hu⟩ := rw_.two'
    obtain ⟨a, rfl, lv⟩ := lv_of hw e1
    obtain ⟨b, rfl, lv'⟩ := lv_of hu e2
    obtain ⟨vs, q1, _⟩ := lv.now (Stp.refl rs) rs fun _ _ => rfl
    obtain ⟨us, q2, _⟩ := lv'.now (Stp.refl rs) rs fun _ _ => rfl
    exact ⟨a, b, vs, us, rfl, q1, q2, q _ (liv_zip lv lv')⟩) σ H R h
end
end DL

namespace DL
open PySem PySem.Spec PyProof.Rows L2

/-! ### the context of a body -/
/-- what a def keeps, by its meaning over data -/
def spD (K : PySem.W.Frag) (xr : XRel) (m : List W → Mo W) : Sp := fun vs H Q E => ∃ μ S ws r, RS K μ S H ∧ RWs K μ H ws vs ∧ m ws S = some r ∧ match r with
  | .ok d S' => ∀ μ' H' v, Stp μ H μ' H' → RS K μ' S' H' → RW K μ' H' d v → Q v H'
  | .exc k a S' => ∀ μ' H' c dd, Stp μ H μ' H' → RS K μ' S' H' → xr k a μ' H' c dd → E c dd H'
structure Tb where
  nf : Nat
  fname : Nat → Str
  kws : Nat → List (Nat × List Str × List Nat)
  gname : Nat → Str
  maths : List B1
structure Cfg where
  N : List Str
  sc : Scope
  raw : Option Scope
def nameB : B1 → Str
  | .len => "len" | .abs => "abs" | .int => "int" | .gcd => "gcd" | .isqrt => "isqrt" | .max => "max" | .min => "min" | .divmod => "divmod" | .all => "all" | .any => "any" | .sum => "sum"
  | .sortedI => "sorted" | .sortedS => "sorted" | .tuple => "tuple" | .list => "list"
def isMath : B1 → Bool
  | .gcd => true
  | .isqrt => true
  | _ => false
def bltNames : List Str := ["len", "abs", "int", "max", "min", "divmod", "all", "any", "sum", "sorted", "tuple", "list", "isinstance", "bool", "str", "repr", "range", "enumerate", "zip"]
def tyNames : List String := ["int", "bool", "tuple", "str", "list"]
structure Gd (T : Tb) (sm : Sm) (xr : XRel) (k : Nat) (Γ : Cfg) (X : Cx) (Wx : WX) : Prop where
  N : X.N = Γ.N
  nd : Γ.N.Nodup
  sc : X.env.scope = Γ.sc
  fn : match Γ.raw with
    | none => ∀ x, X.fn x = true
    | some r => X.fn = fun x => r.names.lookup x == some .cell
  calm : X.calm = true
  room : Room k X.A
  grd : X.A.guards = some []
  un : X.A.units + 65 < cLine
  tk : Takes X Wx
  po : PassesOwn (model X.prog X.w) X.A X.env X.xe
  glob : ∀ g x, sm.glob g = some x → ∃ u v, X.mg (T.gname g) = some u ∧ RelV v u ∧ ∀ μ H, (∀ a ∈ μ.l, ∃ vs, H a = some (.lst vs)) → RD X.K μ H x v
  call : ∀ f, f < T.nf → ∃ a fd ps, X.mg (T.fname f) = some (.ref a) ∧ PySem.W.keepIn X.K (.ref a) = true ∧ FnG X.prog X.w X.K X.mg X.base (L2.CX X.prog X.w) k a fd ps (spD X.K xr (sm.call f)) ∧ Binds X.K fd ps [] ∧
    ∀ n ks pm, (n, ks, pm) ∈ T.kws f → KwTo X.K fd ps n ks pm
  blt : ∀ x ∈ bltNames, X.mg x = none
  math : ∀ b ∈ T.maths, isMath b = true → X.mg (nameB b) = some (valB b)
theorem Gd.blk {T : Tb} {sm : Sm} {xr : XRel} {k : Nat} {Γ : Cfg} {X : Cx} {Wx : WX} (g : Gd T sm xr k Γ X Wx) (scope : Scope) (s : Shared) (H : Hp) (C : Addr) (cl : List (Str × Addr)) (fp : List Addr) :
    Gd T sm xr k { Γ with sc := relS scope Γ.sc, raw := some scope } (X.blk s H scope (compEnvC scope cl C X.env) fp) (fun _ _ _ _ => False) where
  N := g.N
  nd := g.nd
  sc := by
    show relS scope X.env.scope = relS scope Γ.sc
    rw [g.sc]
  fn := rfl
  calm := g.calm
  room := g.room
  grd := g.grd
  un := g.un
  tk := takes0
  po := PassesOwn.never
  glob := g.glob
  call := g.call
  blt := g.blt
  math := g.math

/-! ### names -/
def visB (Γ : Cfg) (x : Str) : Bool := match Γ.sc.names.lookup x with
  | some .local => true
  | some .cell => true
  | some .free => true
  | _ => false
def glB (Γ : Cfg) (x : Str) : Bool := match Γ.sc.names.lookup x with
  | some .globalImplicit => true
  | _ => false
def okN (x : Str) : Bool := !(x == ("__debug__" : Str)) && (!(x == ("__classdict__" : Str)) && !(x == ("__name__" : Str)))
def stB (Γ : Cfg) (x : Str) : Bool := match Γ.sc.names.lookup x with
  | some .local => true
  | some .cell => (match Γ.raw with
    | none => true
    | some r => r.names.lookup x == some .cell)
  | _ => false
section
variable {T : Tb} {sm : Sm} {xr : XRel} {k : Nat} {Γ : Cfg} {X : Cx} {Wx : WX} {x : Str}
theorem okN_ok (h : okN x = true) : (x == ("__debug__" : Str)) = false ∧ (x == ("__classdict__" : Str)) = false ∧ x ≠ "__name__" := by
  unfold okN at h
  rw [Bool.and_eq_true, Bool.and_eq_true] at h
  obtain ⟨a, b, c⟩ := h
  refine ⟨by simpa using a, by simpa using b, by simpa using c⟩
theorem Gd.vis (g : Gd T sm xr k Γ X Wx) (h : visB Γ x = true) : Vis X.env.scope x := by
  unfold visB at h
  unfold Vis
  rw [g.sc]
  split at h <;> first | exact .inl (by assumption) | exact .inr (.inl (by assumption)) | exact .inr (.inr (by assumption)) | cases h
theorem Gd.gl (g : Gd T sm xr k Γ X Wx) (h : glB Γ x = true) : Gl X x := by
  unfold glB at h
  unfold Gl Env.kindOf
  rw [g.sc]
  split at h
  · assumption
  · cases h
theorem Gd.st (g : Gd T sm xr k Γ X Wx) (h : stB Γ x = true) : L2.Loc X.env.scope x ∧ (X.fn x = true ∨ X.env.scope.names.lookup x = some .local) := by
  unfold stB at h
  unfold L2.Loc
  rw [g.sc]
  have f := g.fn
  split at h
  · rename_i e
    exact ⟨.inl e, .inr e⟩
  · rename_i e
    refine ⟨.inr e, .inl ?_⟩
    cases q : Γ.raw with
    | none =>
      rw [q] at f
      exact f x
    | some r =>
      rw [q] at h f
      rw [f]
      exact h
  · cases h
theorem Gd.n (g : Gd T sm xr k Γ X Wx) {i : Nat} (h : Γ.N[i]? = some x) : X.N[i]? = some x := by rw [g.N]; exact h
theorem Gd.xnd (g : Gd T sm xr k Γ X Wx) : X.N.Nodup := by rw [g.N]; exact g.nd
end

/-! ### rules, one a construct -/
section
variable {X : Cx} {xr : XRel} {Wx : WX} {pos p : Pos} {a b c e : Expr} {es : List Expr} {ma mb mc m : Env' → Mo W} {ms : Env' → Mo (List W)} {i : Nat} {x : Str}
abbrev EE (X : Cx) (xr : XRel) (Wx : WX) (e : Expr) (m : Env' → Mo W) : Prop := PE X e (tE X.K xr Wx m)
abbrev ET (X : Cx) (xr : XRel) (Wx : WX) (e : Expr) (m : Env' → Mo W) : Prop := PT X e (tT X.K xr Wx fun ρ => bnd (m ρ) truthB)
abbrev EA (X : Cx) (xr : XRel) (Wx : WX) (es : List Expr) (ms : Env' → Mo (List W)) : Prop := PA X es (tA X.K xr Wx ms)
theorem e_var (hN : X.N[i]? = some x) (hv : Vis X.env.scope x) (h1 : (x == ("__debug__" : Str)) = false) (h2 : (x == ("__classdict__" : Str)) = false) :
    EE X xr Wx (.Name x pos) fun ρ S => match ρ[i]? with
      | some (some w) => some (.ok w S)
      | _ => none := PEw (pe_var hN hv h1 h2) fun σ H Q h => by
  obtain ⟨μ, ρ, S, r, hs, hr, hm, fi⟩ := h
  simp only at hm
  split at hm
  · rename_i w e
    cases hm
    obtain ⟨v, e1, r⟩ := hr.at_ i w e
    exact ⟨v, e1, fi _ _ _ (Stp.refl hs) hs r⟩
  · cases hm
theorem e_con {v : V} {d : PyData} (h : PE X e (tC v)) (r : ∀ μ H, (∀ a ∈ μ.l, ∃ vs, H a = some (.lst vs)) → RD X.K μ H d v) : EE X xr Wx e fun _ => re (.d d) := PEw h fun σ H Q h => by
  obtain ⟨μ, ρ, S, z, hs, hr, hm, fi⟩ := h
  cases hm
  exact fi _ _ _ (Stp.refl hs) hs (r μ H hs.lstAt)
theorem bnd_assocF {α β γ : Type} (m : Mo α) (f : α → Mo β) (g : β → Mo γ) : bnd (bnd m f) g = bnd m fun x => bnd (f x) g := funext fun S => bnd_assoc m f g S
theorem lift_ok {α β : Type} {o : Option α} {f : α → Mo β} {S : Sto} {r : Out β} (h : bnd (lift o) f S = some r) : ∃ z, o = some z ∧ f z S = some r := by
  cases o with
  | none => cases h
  | some z => exact ⟨z, rfl, h⟩
/-- one piece, then what comes of it -/
theorem sq {α β γ δ : Type} {K : PySem.W.Frag} {R : Mu → Hp → α → β → Prop} {R' : Mu → Hp → γ → δ → Prop} {μ : Mu} {H : Hp} {σ : L2.St} {ρ : Env'} {S : Sto} {m : Env' → Mo α} {f : α → Mo γ} {Q : δ → Hp → Prop} {r : Out γ}
    (hs : RS K μ S H) (he : RE K μ H ρ σ) (h : bnd (m ρ) f S = some r) (fi : Fi K xr Wx R' μ H σ Q r) {Z : β → Hp → Prop}
    (k : ∀ μ1 S1 H1 x y, Stp μ H μ1 H1 → RS K μ1 S1 H1 → RE K μ1 H1 ρ σ → R μ1 H1 x y → f x S1 = some r → Fi K xr Wx R' μ1 H1 σ Q r → Z y H1) : tG K xr Wx R m σ H Z := by
  obtain ⟨μ', ρ', S', z', hs', hr', hm', fi'⟩ := tG.first (R := R) hs he h fi
  refine ⟨μ', ρ', S', z', hs', hr', hm', ?_⟩
  cases z' with
  | exc k a S1 => exact fi'
  | ok w S1 =>
    refine fun μ1 H1 v st rs rw_ => ?_
    obtain ⟨μ2, S2, x2, st2, rs2, re2, rw2, h2, fi2⟩ := fi' μ1 H1 v st rs rw_
    exact k μ2 S2 H1 x2 v st2 rs2 re2 rw2 h2 fi2
theorem fin_d {K : PySem.W.Frag} {μ : Mu} {H : Hp} {σ : L2.St} {S : Sto} {Q : VK} {r : Out W} {d : PyData} (h : re (W.d d) S = some r) (fi : Fi K xr Wx (rW K) μ H σ Q r) {H' : Hp} {v : V} (st : Stp μ H μ H') (rs : RS K μ S H') (rd : RD K μ H' d v) : Q v H' := by
  cases h
  exact fi _ _ _ st rs rd
theorem e_vo {r : R2} {g : PyData → PyData → Option PyData} (hv : VO X.K r g) (σ : L2.St) (H : Hp) (Q : VK)
    (h : tE X.K xr Wx (fun ρ => bnd (ma ρ) fun x => bnd (mb ρ) fun y => bnd (asD x) fun dx => bnd (asD y) fun dy => bnd (lift (g dx dy)) fun z => re (.d z)) σ H Q) : tOp r (tE X.K xr Wx ma) (tE X.K xr Wx mb) σ H Q := by
  obtain ⟨μ, ρ, S, z, hs, hr, hm, fi⟩ := h
  refine sq hs hr hm fi fun μ1 S1 H1 x v st1 rs1 re1 rw1 h1 fi1 => ?_
  refine sq rs1 re1 h1 fi1 fun μ2 S2 H2 y u st2 rs2 re2 rw2 h2 fi2 => ?_
  obtain ⟨dx, rx, h3⟩ := asD_ok rs2 (rw1.stp st2) h2
  obtain ⟨dy, ry, h4⟩ := asD_ok rs2 rw2 h3
  obtain ⟨zz, ez, h5⟩ := lift_ok h4
  exact hv μ2 S2 H2 dx dy v u zz Q rs2 rx ry ez fun H' w' st' rs' rd => fin_d h5 fi2 st' rs' rd
theorem e_bin (o : O2) (ha : EE X xr Wx a ma) (hb : EE X xr Wx b mb) : EE X xr Wx (.BinOp a (tokO o) b pos) fun ρ => bnd (ma ρ) fun x => bnd (mb ρ) fun y => bnd (asD x) fun dx => bnd (asD y) fun dy => bnd (lift (o2 o dx dy)) fun z => re (.d z) := by
  obtain ⟨r, h1, h2⟩ := o2_ok (X := X) o
  exact PEw (pe_op h1 ha hb) (e_vo h2)
theorem lift_map {α β γ : Type} {o : Option α} {g : α → β} {f : β → Mo γ} : bnd (lift (o.map g)) f = bnd (lift o) fun z => f (g z) := by
  cases o <;> rfl
theorem e_cmp (o : C2) (hu : X.A.units + 65 < cLine) (hn : nset b = true) (ha : EE X xr Wx a ma) (hb : EE X xr Wx b mb) :
    EE X xr Wx (.Compare a [tokC o] [b] pos) fun ρ => bnd (ma ρ) fun x => bnd (mb ρ) fun y => bnd (asD x) fun dx => bnd (asD y) fun dy => bnd (lift (c2 o dx dy)) fun z => re (.d (.bool z)) := by
  obtain ⟨r, h1, h2⟩ := c2_ok (X := X) o hu
  refine PEw (pe_cmpR h1 ha hb (nset_in hn)) fun σ H Q h => e_vo h2 σ H Q ?_
  simpa only [lift_map] using h
theorem truthB_ok {K : PySem.W.Frag} {α : Type} {μ : Mu} {H : Hp} {w : W} {v : V} {f : Bool → Mo α} {S : Sto} {r : Out α} (hw : RW K μ H w v) (h : bnd (truthB w) f S = some r) : ∃ k, v = .bl k ∧ w = .d (.bool k) ∧ f k S = some r := by
  cases w with
  | l j => cases h
  | d x =>
    cases x <;> first | (cases h; done) | skip
    have hw : RD K μ H _ v := hw
    cases hw
    exact ⟨_, rfl, rfl, h⟩
theorem tB_of {t : TE} {σ : L2.St} {H : Hp} {Q : Bool → Hp → Prop} (h : t σ H fun v H1 => ∃ k, v = .bl k ∧ Q k H1) : tTest t σ H Q := h
/-- what runs and then is a truth value -/
theorem truthT (h : EE X xr Wx e m) (hp : plT e = true) : ET X xr Wx e m := PTw (pt_val h (plT_eq hp)) fun σ H Q q => by
  obtain ⟨μ, ρ, S, z, hs, hr, hm, fi⟩ := q
  refine sq hs hr hm fi fun μ1 S1 H1 x v st1 rs1 re1 rw1 h1 fi1 => ?_
  cases x with
  | l j => cases h1
  | d d =>
    cases d <;> first | (cases h1; done) | skip
    have rw1 : RD X.K μ1 H1 _ v := rw1
    cases rw1
    cases h1
    exact ⟨_, rfl, fi1 _ _ _ (Stp.refl rs1) rs1 rfl⟩
theorem t_cmp (o : C2) (hu : X.A.units + 65 < cLine) (hn : nset b = true) (ha : EE X xr Wx a ma) (hb : EE X xr Wx b mb) :
    ET X xr Wx (.Compare a [tokC o] [b] pos) fun ρ => bnd (ma ρ) fun x => bnd (mb ρ) fun y => bnd (asD x) fun dx => bnd (asD y) fun dy => bnd (lift (c2 o dx dy)) fun z => re (.d (.bool z)) := by
  obtain ⟨r, h1, h2⟩ := c2_ok (X := X) o hu
  refine PTw (pt_cmpR h1 ha hb (nset_in hn)) fun σ H Q h => ?_
  obtain ⟨μ, ρ, S, z, hs, hr, hm, fi⟩ := h
  simp only [bnd_assocF] at hm
  show tE X.K xr Wx ma σ H _
  refine sq hs hr hm fi fun μ1 S1 H1 x v st1 rs1 re1 rw1 h1 fi1 => ?_
  refine sq rs1 re1 h1 fi1 fun μ2 S2 H2 y u st2 rs2 re2 rw2 h2' fi2 => ?_
  obtain ⟨dx, rx, h3⟩ := asD_ok rs2 (rw1.stp st2) h2'
  obtain ⟨dy, ry, h4⟩ := asD_ok rs2 rw2 h3
  obtain ⟨zz, ez, h5⟩ := lift_ok h4
  refine h2 μ2 S2 H2 dx dy v u (.bool zz) _ rs2 rx ry (by simp [ez]) fun H' w' st' rs' rd => ?_
  cases rd
  cases h5
  exact ⟨_, rfl, fi2 _ _ _ st' rs' rfl⟩
end
end DL

namespace DL
open PySem PySem.Spec PyProof.Rows L2
section
variable {X : Cx} {xr : XRel} {Wx : WX} {pos p p2 : Pos} {a b c e : Expr} {es : List Expr} {ma mb mc m : Env' → Mo W} {ms : Env' → Mo (List W)} {i : Nat} {x : Str}
theorem e_neg (ha : EE X xr Wx a ma) : EE X xr Wx (.UnaryOp .USub a pos) fun ρ => bnd (ma ρ) fun x => match x with
    | .d (.int i) => re (.d (.int (-i)))
    | _ => no := PEw (pe_un un_neg ha) fun σ H Q h => by
  obtain ⟨μ, ρ, S, z, hs, hr, hm, fi⟩ := h
  show tE X.K xr Wx ma σ H _
  refine sq hs hr hm fi fun μ1 S1 H1 x v st1 rs1 re1 rw1 h1 fi1 => ?_
  cases x with
  | l j => cases h1
  | d d =>
    cases d <;> first | (cases h1; done) | skip
    have rw1 : RD X.K μ1 H1 _ v := rw1
    cases rw1
    exact ⟨_, rfl, fin_d h1 fi1 (Stp.refl rs1) rs1 (.int _)⟩
theorem e_chn (o o' : C2) (hu : X.A.units + 65 < cLine) (hn : nset c = true) (ha : EE X xr Wx a ma) (hb : EE X xr Wx b mb) (hc : EE X xr Wx c mc) :
    let M : Env' → Mo W := fun ρ => bnd (ma ρ) fun x => bnd (mb ρ) fun y => bnd (asD x) fun dx => bnd (asD y) fun dy => bnd (lift (c2 o dx dy)) fun k =>
      if k = true then bnd (mc ρ) fun z => bnd (asD y) fun dy => bnd (asD z) fun dz => bnd (lift (c2 o' dy dz)) fun k' => re (.d (.bool k')) else re (.d (.bool false))
    EE X xr Wx (.Compare a [tokC o, tokC o'] [b, c] pos) M ∧ ET X xr Wx (.Compare a [tokC o, tokC o'] [b, c] pos) M := by
  intro M
  obtain ⟨r, h1, h2⟩ := c2_ok (X := X) o hu
  obtain ⟨r', h1', h2'⟩ := c2_ok (X := X) o' hu
  have hm : lastMarks [tokC o, tokC o'] [b, c] = false := by
    show behindInMarks (tokC o') c = false
    exact nset_in hn
  have key : ∀ (σ : L2.St) (H : Hp) (Q : VK), tE X.K xr Wx M σ H Q → tChain r r' (tE X.K xr Wx ma) (tE X.K xr Wx mb) (tE X.K xr Wx mc) σ H Q := fun σ H Q h => by
    obtain ⟨μ, ρ, S, z, hs, hr, hm, fi⟩ := h
    refine sq hs hr hm fi fun μ1 S1 H1 x v st1 rs1 re1 rw1 h1 fi1 => ?_
    refine sq rs1 re1 h1 fi1 fun μ2 S2 H2 y u st2 rs2 re2 rw2 h3 fi2 => ?_
    obtain ⟨dx, rx, h4⟩ := asD_ok rs2 (rw1.stp st2) h3
    obtain ⟨dy, ry, h5⟩ := asD_ok rs2 rw2 h4
    obtain ⟨kk, ez, h6⟩ := lift_ok h5
    refine h2 μ2 S2 H2 dx dy v u (.bool kk) _ rs2 rx ry (by simp [ez]) fun H' w' st' rs' rd => ?_
    cases rd
    refine ⟨kk, rfl, ?_⟩
    cases kk with
    | false =>
      rw [if_neg (by decide)] at h6 ⊢
      cases h6
      exact fi2 _ _ _ st' rs' (.bl _)
    | true =>
      rw [if_pos rfl] at h6 ⊢
      refine sq rs' (re2.stp st') h6 (fi2.stp st') fun μ3 S3 H3 z w st3 rs3 re3 rw3 h7 fi3 => ?_
      obtain ⟨dy', ry', h8⟩ := asD_ok rs3 ((rw2.stp st').stp st3) h7
      obtain ⟨dz, rz, h9⟩ := asD_ok rs3 rw3 h8
      obtain ⟨k2, e2, h10⟩ := lift_ok h9
      refine h2' μ3 S3 H3 dy' dz u w (.bool k2) _ rs3 ry' rz (by simp [e2]) fun H4 w4 st4 rs4 rd4 => ?_
      exact fin_d h10 fi3 st4 rs4 rd4
  refine ⟨PEw (pe_chain h1 h1' ha hb hc hm) key, PTw (pt_chain h1 h1' ha hb hc hm) fun σ H Q h => ?_⟩
  refine key σ H _ ?_
  obtain ⟨μ, ρ, S, z, hs, hr, hm, fi⟩ := h
  refine sq hs hr hm fi fun μ1 S1 H1 x v st1 rs1 re1 rw1 h1 fi1 => ?_
  cases x with
  | l j => cases h1
  | d d =>
    cases d <;> first | (cases h1; done) | skip
    have rw1 : RD X.K μ1 H1 _ v := rw1
    cases rw1
    cases h1
    exact ⟨_, rfl, fi1 _ _ _ (Stp.refl rs1) rs1 rfl⟩
theorem e_not (h : EE X xr Wx a ma) : EE X xr Wx (.UnaryOp .Not a pos) fun ρ => bnd (ma ρ) fun x => bnd (truthB x) fun k => re (.d (.bool (!k))) := PEw (pe_not h) fun σ H Q h => by
  obtain ⟨μ, ρ, S, z, hs, hr, hm, fi⟩ := h
  show tE X.K xr Wx ma σ H _
  refine sq hs hr hm fi fun μ1 S1 H1 x v st1 rs1 re1 rw1 h1 fi1 => ?_
  obtain ⟨k, rfl, rfl, h2⟩ := truthB_ok rw1 h1
  exact ⟨k, rfl, fin_d h2 fi1 (Stp.refl rs1) rs1 (.bl _)⟩
theorem t_not (h : ET X xr Wx a ma) : ET X xr Wx (.UnaryOp .Not a pos) fun ρ => bnd (ma ρ) fun x => bnd (truthB x) fun k => re (.d (.bool (!k))) := PTw (pt_not h) fun σ H Q h => by
  obtain ⟨μ, ρ, S, z, hs, hr, hm, fi⟩ := h
  simp only [bnd_assocF] at hm
  rw [← bnd_assocF (ma ρ)] at hm
  refine sq (m := fun ρ => bnd (ma ρ) truthB) hs hr hm fi fun μ1 S1 H1 x v st1 rs1 re1 rw1 h1 fi1 => ?_
  cases h1
  have e : x = v := rw1
  subst e
  exact fi1 _ _ _ (Stp.refl rs1) rs1 rfl
theorem e_ite (ht : ET X xr Wx c mc) (ha : EE X xr Wx a ma) (hb : EE X xr Wx b mb) : EE X xr Wx (.IfExp c a b pos) fun ρ => bnd (mc ρ) fun x => bnd (truthB x) fun k => if k = true then ma ρ else mb ρ := PEw (pe_ifExp ht ha hb) fun σ H Q h => by
  obtain ⟨μ, ρ, S, z, hs, hr, hm, fi⟩ := h
  have hm : bnd (bnd (mc ρ) truthB) (fun k => if k = true then ma ρ else mb ρ) S = some z := by rw [bnd_assocF]; exact hm
  refine sq (m := fun ρ => bnd (mc ρ) truthB) hs hr hm fi fun μ1 S1 H1 x v st1 rs1 re1 rw1 h1 fi1 => ?_
  have e : x = v := rw1
  subst e
  cases x with
  | true => exact ⟨μ1, ρ, S1, z, rs1, re1, h1, fi1⟩
  | false => exact ⟨μ1, ρ, S1, z, rs1, re1, h1, fi1⟩
theorem t_ite (ht : ET X xr Wx c mc) (ha : ET X xr Wx a ma) (hb : ET X xr Wx b mb) : ET X xr Wx (.IfExp c a b pos) fun ρ => bnd (mc ρ) fun x => bnd (truthB x) fun k => if k = true then ma ρ else mb ρ := by
  refine ⟨fun pins s σ H Q I h => ?_⟩
  obtain ⟨μ, ρ, S, z, hs, hr, hm, fi⟩ := h
  simp only [bnd_assocF] at hm
  rw [← bnd_assocF (mc ρ)] at hm
  have h1 := sq (m := fun ρ => bnd (mc ρ) truthB) (R := rB) hs hr hm fi (Z := fun k H1 => if k = true then tT X.K xr Wx (fun ρ => bnd (ma ρ) truthB) σ H1 Q else tT X.K xr Wx (fun ρ => bnd (mb ρ) truthB) σ H1 Q) fun μ1 S1 H1 x v st1 rs1 re1 rw1 h1 fi1 => by
    have e : x = v := rw1
    subst e
    cases x with
    | true =>
      rw [if_pos rfl] at h1 ⊢
      exact ⟨μ1, ρ, S1, z, rs1, re1, h1, fi1⟩
    | false =>
      rw [if_neg (by decide)] at h1 ⊢
      exact ⟨μ1, ρ, S1, z, rs1, re1, h1, fi1⟩
  refine isTrue_IfExp (thn (ht.run pins s σ H _ I h1) fun d s1 ⟨H1, I1, q1⟩ => ?_)
  cases d with
  | true => exact ha.run pins s1 σ H1 Q I1 q1
  | false => exact hb.run pins s1 σ H1 Q I1 q1
theorem a_nil : EA X xr Wx [] fun _ => re [] := PAw pa_nil fun σ H Q h => by
  obtain ⟨μ, ρ, S, z, hs, hr, hm, fi⟩ := h
  cases hm
  exact fi _ _ _ (Stp.refl hs) hs .nil
theorem a_cons (hn : nst a = true) (ha : EE X xr Wx a ma) (he : EA X xr Wx es ms) : EA X xr Wx (a :: es) fun ρ => bnd (ma ρ) fun w => bnd (ms ρ) fun ws => re (w :: ws) := PAw (pa_cons ha he (star_cons hn)) fun σ H Q h => by
  obtain ⟨μ, ρ, S, z, hs, hr, hm, fi⟩ := h
  show tE X.K xr Wx ma σ H _
  refine sq hs hr hm fi fun μ1 S1 H1 x v st1 rs1 re1 rw1 h1 fi1 => ?_
  show tA X.K xr Wx ms σ H1 _
  refine sq (R := rA X.K) rs1 re1 h1 fi1 fun μ2 S2 H2 y u st2 rs2 re2 rw2 h2 fi2 => ?_
  cases h2
  exact fi2 _ _ _ (Stp.refl rs2) rs2 (.cons (rw1.stp st2) rw2)
theorem e_tup {kk : Nat} (he : EA X xr Wx es ms) : EE X xr Wx (.Tuple es kk pos) fun ρ => bnd (ms ρ) fun ws => bnd (onDs ws) fun xs => if xs.length ≤ LIM then re (.d (.tuple xs)) else no := PEw (pe_tup he) fun σ H Q h => by
  obtain ⟨μ, ρ, S, z, hs, hr, hm, fi⟩ := h
  show tA X.K xr Wx ms σ H _
  refine sq (R := rA X.K) hs hr hm fi fun μ1 S1 H1 ws vs st1 rs1 re1 rw1 h1 fi1 => ?_
  obtain ⟨xs, rd, h2⟩ := onDs_ok rw1 h1
  by_cases hl : xs.length ≤ LIM
  · rw [if_pos hl] at h2
    refine ⟨lim_line (by rw [← rd.length]; exact hl), fun p hp => ?_⟩
    obtain ⟨st, rs, n⟩ := fresh_stp (o := .tup vs) rs1 hp
    exact fin_d h2 fi1 st rs (.tup (.inl (.inl upd_same)) (RDs.stp st _ _ rd))
  · rw [if_neg hl] at h2; cases h2
theorem e_lst (he : EA X xr Wx es ms) : EE X xr Wx (.List es pos) fun ρ => bnd (ms ρ) fun ws => bnd (onDs ws) fun xs => if xs.length ≤ LIM then re (.d (.list xs)) else no := PEw (pe_lst he) fun σ H Q h => by
  obtain ⟨μ, ρ, S, z, hs, hr, hm, fi⟩ := h
  show tA X.K xr Wx ms σ H _
  refine sq (R := rA X.K) hs hr hm fi fun μ1 S1 H1 ws vs st1 rs1 re1 rw1 h1 fi1 => ?_
  obtain ⟨xs, rd, h2⟩ := onDs_ok rw1 h1
  by_cases hl : xs.length ≤ LIM
  · rw [if_pos hl] at h2
    refine ⟨lim_line (by rw [← rd.length]; exact hl), fun p hp => ?_⟩
    obtain ⟨st, rs, n⟩ := fresh_stp (o := .lst vs) rs1 hp
    exact fin_d h2 fi1 st rs (.lst (.inl upd_same) n.1 n.2 (RDs.stp st _ _ rd))
  · rw [if_neg hl] at h2; cases h2
theorem e_lstL (he : EA X xr Wx es ms) : EE X xr Wx (.List es pos) fun ρ => bnd (ms ρ) fun ws => bnd (onDs ws) fun xs => if xs.length ≤ LIM then (fun S => some (.ok (.l S.length) (S ++ [xs]))) else no := PEw (pe_lst he) fun σ H Q h => by
  obtain ⟨μ, ρ, S, z, hs, hr, hm, fi⟩ := h
  show tA X.K xr Wx ms σ H _
  refine sq (R := rA X.K) hs hr hm fi fun μ1 S1 H1 ws vs st1 rs1 re1 rw1 h1 fi1 => ?_
  obtain ⟨xs, rd, h2⟩ := onDs_ok rw1 h1
  by_cases hl : xs.length ≤ LIM
  · rw [if_pos hl] at h2
    refine ⟨lim_line (by rw [← rd.length]; exact hl), fun p hp => ?_⟩
    obtain ⟨st, rs, rw_⟩ := fresh_loc rs1 hp rd
    cases h2
    exact fi1 _ _ _ st rs rw_
  · rw [if_neg hl] at h2; cases h2
theorem atI_rel {K : PySem.W.Frag} {μ : Mu} {H : Hp} {xs : List PyData} {vs : List V} {k : Int} {z : PyData} (r : RDs K μ H xs vs) (h : atI xs k = some z) : ∃ v, atI vs k = some v ∧ RD K μ H z v := by
  unfold atI at h ⊢
  rw [Option.bind_eq_some_iff] at h
  obtain ⟨j, h1, h2⟩ := h
  obtain ⟨v, h3, h4⟩ := r.get h2
  exact ⟨v, by rw [← r.length, h1]; exact h3, h4⟩
theorem e_idx (hp : plIx b = true) (ha : EE X xr Wx a ma) (hb : EE X xr Wx b mb) : EE X xr Wx (.Subscript a b pos) fun ρ => bnd (ma ρ) fun x => bnd (mb ρ) fun y => bnd (asD x) fun dx => bnd (onD y) fun dy => bnd (lift (atD dx dy)) fun z => re (.d z) :=
  PEw (pe_ix ix_seq ha hb (plIx_eq hp)) fun σ H Q h => by
  obtain ⟨μ, ρ, S, z, hs, hr, hm, fi⟩ := h
  show tE X.K xr Wx ma σ H _
  refine sq hs hr hm fi fun μ1 S1 H1 x v st1 rs1 re1 rw1 h1 fi1 => ?_
  show tE X.K xr Wx mb σ H1 _
  refine sq rs1 re1 h1 fi1 fun μ2 S2 H2 y u st2 rs2 re2 rw2 h2 fi2 => ?_
  obtain ⟨dx, rx, h3⟩ := asD_ok rs2 (rw1.stp st2) h2
  obtain ⟨dy, ry, h4⟩ := onD_ok rw2 h3
  obtain ⟨zz, ez, h5⟩ := lift_ok h4
  cases dy <;> cases dx <;> first | (cases ez; done) | skip
  · cases ry
    obtain ⟨a, vs, rfl, q1, q2⟩ := rx.lst
    obtain ⟨v, q3, q4⟩ := atI_rel q2 ez
    exact .inl ⟨a, vs, _, v, rfl, rfl, .inl q1, q3, fin_d h5 fi2 (Stp.refl rs2) rs2 q4⟩
  · cases ry
    obtain ⟨a, vs, rfl, q1, q2⟩ := rx.tup
    obtain ⟨v, q3, q4⟩ := atI_rel q2 ez
    exact .inr (.inl ⟨a, vs, _, v, rfl, rfl, q1, q3, fin_d h5 fi2 (Stp.refl rs2) rs2 q4⟩)

theorem RDs.cutD {K : PySem.W.Frag} {μ : Mu} {H : Hp} {xs : List PyData} {vs : List V} (r : RDs K μ H xs vs) (lo hi : Option Int) : RDs K μ H (DL.cutD xs lo hi) (cutV vs lo hi) := by
  unfold DL.cutD cutV
  rw [← r.length]
  exact (r.drop _).take _
theorem cut_whole {α : Type} {xs : List α} {lo hi : Option Int} (h1 : HT.sIx xs.length 0 lo = 0) (h2 : HT.sIx xs.length xs.length hi = xs.length) : DL.cutD xs lo hi = xs := by
  unfold DL.cutD
  rw [h1, h2]
  simp
def poOf (b : Bool) (e : Expr) : Option Expr := if b = true then some e else none
def tO (K : PySem.W.Frag) (xr : XRel) (Wx : WX) (m : Env' → Mo (Option Int)) : TO := tG K xr Wx (fun _ _ a b => a = b) m
theorem POw {X : Cx} {e : Option Expr} {t t' : TO} (h : PO X e t) (w : ∀ σ H Q, t' σ H Q → t σ H Q) : PO X e t' := ⟨fun pins s σ H Q I q => h.run pins s σ H Q I (w _ _ _ q)⟩
theorem o_part (f : Bool) (hb : f = true → EE X xr Wx b mb) : PO X (poOf f b) (tO X.K xr Wx fun ρ => partO f (mb ρ)) := by
  cases f with
  | false =>
    refine POw po_none fun σ H Q h => ?_
    · obtain ⟨μ, ρ, S, z, hs, hr, hm, fi⟩ := h
      cases hm
      exact fi _ _ _ (Stp.refl hs) hs rfl
  | true =>
    refine POw (po_some (hb rfl)) fun σ H Q h => ?_
    · obtain ⟨μ, ρ, S, z, hs, hr, hm, fi⟩ := h
      have hm : bnd (mb ρ) (fun x => match x with
        | .d (.int i) => re (some i)
        | _ => no) S = some z := hm
      show tE X.K xr Wx mb σ H _
      refine sq hs hr hm fi fun μ1 S1 H1 x v st1 rs1 re1 rw1 h1 fi1 => ?_
      cases x with
      | l j => cases h1
      | d d =>
        cases d <;> first | (cases h1; done) | skip
        have rw1 : RD X.K μ1 H1 _ v := rw1
        cases rw1
        cases h1
        exact ⟨_, rfl, fi1 _ _ _ (Stp.refl rs1) rs1 rfl⟩
theorem SlR.or' {r r' : V → Option Int → Option Int → Hp → VK → Prop} (h : SlR X r) (h' : SlR X r') : SlR X (fun x lo hi H Q => r x lo hi H Q ∨ r' x lo hi H Q) := SlR.or h h'
theorem e_slc (f g : Bool) (ha : EE X xr Wx a ma) (hb : f = true → EE X xr Wx b mb) (hc : g = true → EE X xr Wx c mc) : EE X xr Wx (.Subscript a (.Slice (poOf f b) (poOf g c) none p2) pos) fun ρ => bnd (ma ρ) fun x => bnd (partO f (mb ρ)) fun p => bnd (partO g (mc ρ)) fun q => bnd (asD x) fun dx => bnd (lift (slD dx p q)) fun z => re (.d z) :=
  PEw (pe_slice (SlR.or' sl_list sl_tupA) ha (o_part f hb) (o_part g hc)) fun σ H Q h => by
  obtain ⟨μ, ρ, S, z, hs, hr, hm, fi⟩ := h
  show tE X.K xr Wx ma σ H _
  refine sq hs hr hm fi fun μ1 S1 H1 x v st1 rs1 re1 rw1 h1 fi1 => ?_
  show tO X.K xr Wx _ σ H1 _
  refine sq (m := fun ρ => partO f (mb ρ)) rs1 re1 h1 fi1 fun μ2 S2 H2 lo lo' st2 rs2 re2 rw2 h2 fi2 => ?_
  have e2 : lo = lo' := rw2
  subst e2
  show tO X.K xr Wx _ σ H2 _
  refine sq (m := fun ρ => partO g (mc ρ)) rs2 re2 h2 fi2 fun μ3 S3 H3 hi hi' st3 rs3 re3 rw3 h3 fi3 => ?_
  have e3 : hi = hi' := rw3
  subst e3
  obtain ⟨dx, rx, h4⟩ := asD_ok rs3 ((rw1.stp st2).stp st3) h3
  obtain ⟨zz, ez, h5⟩ := lift_ok h4
  cases dx <;> first | (cases ez; done) | skip
  · cases ez
    obtain ⟨a, vs, rfl, q1, q2⟩ := rx.lst
    refine .inl ⟨a, vs, rfl, .inl q1, fun p hp => ?_⟩
    obtain ⟨st, rs, n⟩ := fresh_stp (o := .lst (cutV vs lo hi)) rs3 hp
    exact fin_d h5 fi3 st rs (.lst (.inl upd_same) n.1 n.2 (RDs.stp st _ _ (q2.cutD lo hi)))
  · cases ez
    obtain ⟨a, vs, rfl, q1, q2⟩ := rx.tup
    refine .inr ⟨a, vs, rfl, q1, fun ⟨w1, w2⟩ => ?_, fun _ p hp => ?_⟩
    · rw [cut_whole (by rw [q2.length]; exact w1) (by rw [q2.length]; exact w2)] at h5
      exact fin_d h5 fi3 (Stp.refl rs3) rs3 (.tup q1 q2)
    · obtain ⟨st, rs, n⟩ := fresh_stp (o := .tup (cutV vs lo hi)) rs3 hp
      exact fin_d h5 fi3 st rs (.tup (.inl (.inl upd_same)) (RDs.stp st _ _ (q2.cutD lo hi)))
def nmTy (T : String) : Str := Str.ofString T
theorem ty_boot {T : String} (h : T ∈ tyNames) : bootBuiltins (nmTy T) = some (.type T) ∧ nmTy T ∈ bltNames := by
  simp only [tyNames, List.mem_cons, List.not_mem_nil, or_false] at h
  rcases h with rfl | rfl | rfl | rfl | rfl
  · exact ⟨boot_int, by decide +kernel⟩
  · exact ⟨boot_bool, by decide +kernel⟩
  · exact ⟨boot_tuple, by decide +kernel⟩
  · exact ⟨boot_str, by decide +kernel⟩
  · exact ⟨boot_list, by decide +kernel⟩
theorem e_isi {T : String} (hT : T ∈ tyNames) (hb : ∀ x ∈ bltNames, X.mg x = none) (hg : Gl X "isinstance") (hg2 : Gl X (nmTy T)) (hn : nst a = true) (ho : okN (nmTy T) = true) (ha : EE X xr Wx a ma) :
    EE X xr Wx (.Call (.Name "isinstance" p) [a, .Name (nmTy T) p2] [] pos) fun ρ => bnd (ma ρ) fun x => bnd (asD x) fun dx => bnd (lift (kitB (tyOf dx) T)) fun k => re (.d (.bool k)) := by
  obtain ⟨t1, t2⟩ := ty_boot hT
  obtain ⟨o1, o2, o3⟩ := okN_ok ho
  have hty : PE X (.Name (nmTy T) p2) (tC (.ty T)) := pe_bltn hg2 (hb _ t2) t1 rfl o3 o1
  refine PEw (pe_callB (r := fun vs H Q => ∃ μ x v k, vs = [v, .ty T] ∧ RR X.K μ H x v ∧ kitB (tyOf x) T = some k ∧ Q (.bl k) H) (fun pins s σ H vs us Q I r h => ?_) hg (hb _ (by decide +kernel)) boot_isinstance (pa_cons ha (pa_cons hty pa_nil) (star_cons hn)) (by decide) (by decide) (star_cons hn) (star_any (by rfl))) fun σ H Q h => ?_
  · obtain ⟨μ, x, v, k, rfl, rx, e, q⟩ := h
    exact isin_ok I r rx e q
  · obtain ⟨μ, ρ, S, z, hs, hr, hm, fi⟩ := h
    show tE X.K xr Wx ma σ H _
    refine sq hs hr hm fi fun μ1 S1 H1 x v st1 rs1 re1 rw1 h1 fi1 => ?_
    obtain ⟨dx, rx, h2⟩ := asD_ok rs1 rw1 h1
    obtain ⟨kk, ez, h3⟩ := lift_ok h2
    exact ⟨μ1, dx, v, kk, rfl, rx, ez, fin_d h3 fi1 (Stp.refl rs1) rs1 (.bl _)⟩
theorem blt_boot (b : B1) (h : isMath b = false) : bootBuiltins (nameB b) = some (valB b) ∧ nameB b ∈ bltNames ∧ nameB b ≠ "__name__" := by
  cases b <;> first | (cases h; done) | exact ⟨by first | exact boot_len | exact boot_abs | exact boot_int | exact boot_max | exact boot_min | exact boot_divmod | exact boot_all | exact boot_any | exact boot_sum | exact boot_sorted | exact boot_tuple | exact boot_list, by decide +kernel, by decide +kernel⟩
theorem b_name (b : B1) : (nameB b == ("__debug__" : Str)) = false := by cases b <;> decide +kernel
theorem e_blt (B : B1) (hc : X.calm = true) (hn : nst a = true) (hns : es.all nst = true) (hmg : (isMath B = false ∧ ∀ x ∈ bltNames, X.mg x = none) ∨ (isMath B = true ∧ X.mg (nameB B) = some (valB B))) (hg : Gl X (nameB B)) (ha : EA X xr Wx (a :: es) ms) :
    EE X xr Wx (.Call (.Name (nameB B) p) (a :: es) [] pos) fun ρ => bnd (ms ρ) fun ws => bnd (asDs ws) fun xs => bnd (lift (b1 B xs)) fun z => re (.d z) := by
  obtain ⟨r, h1, h2⟩ := b1_ok (X := X) B hc
  have key : ∀ σ H Q, tE X.K xr Wx (fun ρ => bnd (ms ρ) fun ws => bnd (asDs ws) fun xs => bnd (lift (b1 B xs)) fun z => re (.d z)) σ H Q → tCB r (tA X.K xr Wx ms) σ H Q := fun σ H Q h => by
    obtain ⟨μ, ρ, S, z, hs, hr, hm, fi⟩ := h
    show tA X.K xr Wx ms σ H _
    refine sq (R := rA X.K) hs hr hm fi fun μ1 S1 H1 ws vs st1 rs1 re1 rw1 h3 fi1 => ?_
    obtain ⟨xs, rx, h4⟩ := asDs_ok rs1 rw1 h3
    obtain ⟨zz, ez, h5⟩ := lift_ok h4
    exact h2 μ1 S1 H1 xs vs zz Q rs1 rx ez fun H' w' st' rs' rd => fin_d h5 fi1 st' rs' rd
  rcases hmg with ⟨hM, hb⟩ | ⟨hM, hmg⟩
  · obtain ⟨t1, t2, t3⟩ := blt_boot B hM
    have h3 := hb _ t2
    cases B <;> first
      | (cases hM; done)
      | exact PEw (pe_callB h1 hg h3 t1 ha t3 (b_name _) (star_cons hn) (star_any hns)) key
      | exact PEw (pe_callTy h1 hg h3 t1 ha t3 (b_name _) (star_cons hn) (star_any hns)) key
  · cases B <;> first
      | (cases hM; done)
      | exact PEw (pe_callBfun h1 hg hmg ha (b_name _) (star_cons hn) (star_any hns)) key
/-- repr(x) -/
theorem cr_repr (hg : X.A.guards = some []) (hu : X.A.units + 65 < cLine) : CallR X (.builtin "repr") (fun vs H Q => ∃ μ d v, vs = [v] ∧ RR X.K μ H d v ∧ reprOk d = true ∧ Q (.str d.shown) H) := by
  intro pins s σ H vs us Q I r h
  obtain ⟨μ, d, v, rfl, rx, ok, q⟩ := h
  obtain ⟨u, rfl, ru⟩ := Vals.one r
  unfold reprOk at ok
  simp only [Bool.and_eq_true] at ok
  obtain ⟨⟨o0, o1⟩, o2, o3, o4⟩ := ok
  have o4 := of_decide_eq_true o4
  have hsz : d.shown.length ≤ sizeLine := by
    have := PyData.shown_le_bulk 2000 (by decide) d o3
    rw [sizeLine_eq]
    omega
  have hd := SeqAt.depth_of_shaped o1
  obtain ⟨as, rr⟩ := Dp.reads I d v u (rx.dp o1) ru
  have fin : ∀ h' u tk, (∀ b o, s.heap.get? b = some o → h'.get? b = some o) → EP X pins σ Q (.str d.shown u) { s with heap := h', toks := tk } := fun h' u tk k => ⟨.str d.shown, H, I.kept k, ⟨_, rfl⟩, q⟩
  have nd : d.hasDict = true → sysModules ∉ as := PyData.noDict_hsm (PyData.hasDict_of_canLay d (SeqAt.canLay_of_shaped o1))
  have hv : ∃ a, v = .ref a := by
    cases d <;> first | (cases o0; done) | skip
    · obtain ⟨a, _, e, _⟩ := rx.lst
      exact ⟨a, e⟩
    · obtain ⟨a, _, e, _⟩ := rx.tup
      exact ⟨a, e⟩
  obtain ⟨a, rfl⟩ := hv
  cases ru
  exact repr_of_reads' rr o2 nd hg (by omega) (fun _ _ e => e) fin hsz
end
end DL

namespace DL
open PySem PySem.Spec PyProof.Rows L2
section
variable {X : Cx} {xr : XRel} {Wx : WX} {pos p p2 : Pos} {a b c e : Expr} {es : List Expr} {ma mb mc m : Env' → Mo W} {ms : Env' → Mo (List W)} {i : Nat} {x : Str}
theorem e_rpr (hgd : X.A.guards = some []) (hu : X.A.units + 65 < cLine) (hb : ∀ x ∈ bltNames, X.mg x = none) (hg : Gl X "repr") (hn : nst a = true) (ha : EE X xr Wx a ma) :
    EE X xr Wx (.Call (.Name "repr" p) [a] [] pos) fun ρ => bnd (ma ρ) fun x => bnd (asD x) fun dx => if reprOk dx = true then re (.d (.str dx.shown)) else no := by
  refine PEw (pe_callB (cr_repr hgd hu) hg (hb _ (by decide +kernel)) boot_repr (pa_cons ha pa_nil (star_cons hn)) (by decide) (by decide) (star_cons hn) (star_any (by rfl))) fun σ H Q h => ?_
  obtain ⟨μ, ρ, S, z, hs, hr, hm, fi⟩ := h
  show tE X.K xr Wx ma σ H _
  refine sq hs hr hm fi fun μ1 S1 H1 x v st1 rs1 re1 rw1 h1 fi1 => ?_
  obtain ⟨dx, rx, h2⟩ := asD_ok rs1 rw1 h1
  by_cases ok : reprOk dx = true
  · rw [if_pos ok] at h2
    exact ⟨μ1, dx, v, rfl, rx, ok, fin_d h2 fi1 (Stp.refl rs1) rs1 (.str _)⟩
  · rw [if_neg ok] at h2; cases h2
/-! ### and, or -/
abbrev EW (X : Cx) (xr : XRel) (Wx : WX) (e : Expr) (m : Env' → Mo W) : Prop := PW X e (tT X.K xr Wx fun ρ => bnd (m ρ) truthB)
theorem e_and (ha : EE X xr Wx a ma) (hb : EE X xr Wx (.BoolOp .And (b :: es) pos) mb) : EE X xr Wx (.BoolOp .And (a :: b :: es) pos) fun ρ => bnd (ma ρ) fun x => bnd (truthB x) fun k => if k = true then mb ρ else re (.d (.bool false)) :=
  PEw (pe_and ha hb) fun σ H Q h => by
  obtain ⟨μ, ρ, S, z, hs, hr, hm, fi⟩ := h
  show tE X.K xr Wx ma σ H _
  refine sq hs hr hm fi fun μ1 S1 H1 x v st1 rs1 re1 rw1 h1 fi1 => ?_
  obtain ⟨k, rfl, rfl, h2⟩ := truthB_ok rw1 h1
  refine ⟨k, rfl, ?_⟩
  cases k with
  | true => exact ⟨μ1, ρ, S1, z, rs1, re1, h2, fi1⟩
  | false => exact fin_d h2 fi1 (Stp.refl rs1) rs1 (.bl _)
theorem e_or (ha : EE X xr Wx a ma) (hb : EE X xr Wx (.BoolOp .Or (b :: es) pos) mb) : EE X xr Wx (.BoolOp .Or (a :: b :: es) pos) fun ρ => bnd (ma ρ) fun x => bnd (truthB x) fun k => if k = true then re (.d (.bool true)) else mb ρ :=
  PEw (pe_or ha hb) fun σ H Q h => by
  obtain ⟨μ, ρ, S, z, hs, hr, hm, fi⟩ := h
  show tE X.K xr Wx ma σ H _
  refine sq hs hr hm fi fun μ1 S1 H1 x v st1 rs1 re1 rw1 h1 fi1 => ?_
  obtain ⟨k, rfl, rfl, h2⟩ := truthB_ok rw1 h1
  refine ⟨k, rfl, ?_⟩
  cases k with
  | false => exact ⟨μ1, ρ, S1, z, rs1, re1, h2, fi1⟩
  | true => exact fin_d h2 fi1 (Stp.refl rs1) rs1 (.bl _)
theorem w_and (ha : ET X xr Wx a ma) (hb : EW X xr Wx (.BoolOp .And (b :: es) pos) mb) : EW X xr Wx (.BoolOp .And (a :: b :: es) pos) fun ρ => bnd (ma ρ) fun x => bnd (truthB x) fun k => if k = true then mb ρ else re (.d (.bool false)) :=
  PWw (pw_and ha hb) fun σ H Q h => by
  obtain ⟨μ, ρ, S, z, hs, hr, hm, fi⟩ := h
  simp only [bnd_assocF] at hm
  rw [← bnd_assocF (ma ρ)] at hm
  refine sq (m := fun ρ => bnd (ma ρ) truthB) hs hr hm fi fun μ1 S1 H1 x v st1 rs1 re1 rw1 h1 fi1 => ?_
  have e : x = v := rw1
  subst e
  cases x with
  | true =>
    rw [if_pos rfl] at h1 ⊢
    exact ⟨μ1, ρ, S1, z, rs1, re1, h1, fi1⟩
  | false =>
    rw [if_neg (by decide)] at h1 ⊢
    cases h1
    exact fi1 _ _ _ (Stp.refl rs1) rs1 rfl
theorem w_or (ha : ET X xr Wx a ma) (hb : EW X xr Wx (.BoolOp .Or (b :: es) pos) mb) : EW X xr Wx (.BoolOp .Or (a :: b :: es) pos) fun ρ => bnd (ma ρ) fun x => bnd (truthB x) fun k => if k = true then re (.d (.bool true)) else mb ρ :=
  PWw (pw_or ha hb) fun σ H Q h => by
  obtain ⟨μ, ρ, S, z, hs, hr, hm, fi⟩ := h
  simp only [bnd_assocF] at hm
  rw [← bnd_assocF (ma ρ)] at hm
  refine sq (m := fun ρ => bnd (ma ρ) truthB) hs hr hm fi fun μ1 S1 H1 x v st1 rs1 re1 rw1 h1 fi1 => ?_
  have e : x = v := rw1
  subst e
  cases x with
  | false =>
    rw [if_neg (by decide)] at h1 ⊢
    exact ⟨μ1, ρ, S1, z, rs1, re1, h1, fi1⟩
  | true =>
    rw [if_pos rfl] at h1 ⊢
    cases h1
    exact fi1 _ _ _ (Stp.refl rs1) rs1 rfl
/-! ### calls -/
variable {T : Tb} {sm : Sm} {k : Nat} {Γ : Cfg} {f : Nat}
theorem call_fi {K : PySem.W.Frag} {mf : List W → Mo W} {μ : Mu} {S : Sto} {H : Hp} {σ : L2.St} {ws : List W} {vs : List V} {Q : VK} {r : Out W} (rs : RS K μ S H) (rw : RWs K μ H ws vs) (h : mf ws S = some r) (fi : Fi K xr Wx (rW K) μ H σ Q r) :
    spD K xr mf vs H Q (fun c d H' => Wx c d σ H') := by
  refine ⟨μ, S, ws, r, rs, rw, h, ?_⟩
  cases r with
  | ok d S' => exact fun μ' H' v st rs' rd => fi μ' H' v st rs' rd
  | exc k a S' => exact fun μ' H' c dd st rs' x => fi μ' H' c dd st rs' x
theorem e_call (g : Gd T sm xr k Γ X Wx) (hf : f < T.nf) (hg : glB Γ (T.fname f) = true) (ho : okN (T.fname f) = true) (hn : nst a = true) (hns : es.all nst = true) (ha : EA X xr Wx (a :: es) ms) :
    EE X xr Wx (.Call (.Name (T.fname f) p) (a :: es) [] pos) fun ρ => bnd (ms ρ) fun ws => sm.call f ws := by
  obtain ⟨ad, fd, ps, h1, h2, F, B, _⟩ := g.call f hf
  refine PEw (pe_callG (E := WE Wx) F g.room g.grd (g.gl hg) h1 h2 B (fun σ => passAt g.tk σ) ha (okN_ok ho).1 (star_cons hn) (star_any hns)) fun σ H Q h => ?_
  obtain ⟨μ, ρ, S, z, hs, hr, hm, fi⟩ := h
  show tA X.K xr Wx ms σ H _
  refine sq (R := rA X.K) hs hr hm fi fun μ1 S1 H1 ws vs st1 rs1 re1 rw1 h1 fi1 => ?_
  exact call_fi rs1 rw1 h1 fi1
end
end DL

namespace DL
open PySem PySem.Spec PyProof.Rows L2
section
variable {X : Cx} {xr : XRel} {Wx : WX} {pos p p2 kp : Pos} {a b c e : Expr} {es : List Expr} {ma mb mc m : Env' → Mo W} {ms ms2 : Env' → Mo (List W)} {i : Nat} {x : Str} {T : Tb} {sm : Sm} {k : Nat} {Γ : Cfg} {f n : Nat} {kws : List Keyword} {perm : List Nat} {nm : Option Str}
abbrev EK (X : Cx) (xr : XRel) (Wx : WX) (kws : List Keyword) (ms : Env' → Mo (List W)) : Prop := PK X kws (tA X.K xr Wx ms)
theorem PKw {X : Cx} {e : List Keyword} {t t' : TA} (h : PK X e t) (w : ∀ σ H Q, t' σ H Q → t σ H Q) : PK X e t' := ⟨fun pos pins s σ H Q I q => h.run pos pins s σ H Q I (w _ _ _ q)⟩
theorem k_nil : EK X xr Wx [] fun _ => re [] := PKw pk_nil fun σ H Q h => by
  obtain ⟨μ, ρ, S, z, hs, hr, hm, fi⟩ := h
  cases hm
  exact fi _ _ _ (Stp.refl hs) hs .nil
theorem k_cons (ha : EE X xr Wx a ma) (he : EK X xr Wx kws ms) : EK X xr Wx (⟨nm, a, kp⟩ :: kws) fun ρ => bnd (ma ρ) fun w => bnd (ms ρ) fun ws => re (w :: ws) := PKw (pk_cons ha he) fun σ H Q h => by
  obtain ⟨μ, ρ, S, z, hs, hr, hm, fi⟩ := h
  show tE X.K xr Wx ma σ H _
  refine sq hs hr hm fi fun μ1 S1 H1 x v st1 rs1 re1 rw1 h1 fi1 => ?_
  show tA X.K xr Wx ms σ H1 _
  refine sq (R := rA X.K) rs1 re1 h1 fi1 fun μ2 S2 H2 y u st2 rs2 re2 rw2 h2 fi2 => ?_
  cases h2
  exact fi2 _ _ _ (Stp.refl rs2) rs2 (.cons (rw1.stp st2) rw2)
theorem RWs.length {K : PySem.W.Frag} {μ : Mu} {H : Hp} : ∀ {ws : List W} {vs : List V}, RWs K μ H ws vs → ws.length = vs.length
  | _, _, .nil => rfl
  | _, _, .cons _ t => congrArg Nat.succ (RWs.length t)
theorem RWs.append {K : PySem.W.Frag} {μ : Mu} {H : Hp} : ∀ {ws us : List W} {vs zs : List V}, RWs K μ H ws vs → RWs K μ H us zs → RWs K μ H (ws ++ us) (vs ++ zs)
  | _, _, _, _, .nil, q => q
  | _, _, _, _, .cons h t, q => .cons h (RWs.append t q)
theorem RWs.get {K : PySem.W.Frag} {μ : Mu} {H : Hp} : ∀ {ws : List W} {vs : List V} {i : Nat} {w : W}, RWs K μ H ws vs → ws[i]? = some w → ∃ v, vs[i]? = some v ∧ RW K μ H w v
  | _, _, _, _, .nil, e => by simp at e
  | _, _, 0, _, .cons h _, e => by simp at e; subst e; exact ⟨_, rfl, h⟩
  | _, _, i + 1, d, .cons _ t, e => by
    obtain ⟨v, a, b⟩ := RWs.get (i := i) (w := d) t (by simpa using e)
    exact ⟨v, by simpa using a, b⟩
theorem permW_ok {K : PySem.W.Frag} {μ : Mu} {H : Hp} {ws : List W} {vs : List V} (r : RWs K μ H ws vs) : ∀ {perm : List Nat} {us : List W}, permW ws perm = some us → ∃ ys, perm.mapM (fun i => vs[i]?) = some ys ∧ RWs K μ H us ys
  | [], us, h => by
    cases h
    exact ⟨[], by simp, .nil⟩
  | i :: is, us, h => by
    unfold permW at h
    cases e1 : ws[i]? with
    | none => simp [e1] at h
    | some w =>
      cases e2 : permW ws is with
      | none => simp [e1, e2] at h
      | some q =>
        simp [e1, e2] at h
        subst h
        obtain ⟨v, h1, h2⟩ := r.get e1
        obtain ⟨ys, h3, h4⟩ := permW_ok r e2
        exact ⟨v :: ys, by simp [List.mapM_cons, h1, h3], .cons h2 h4⟩
theorem bnd_inv {α β : Type} {m : Mo α} {f : α → Mo β} {S : Sto} {r : Out β} (h : bnd m f S = some r) : (∃ k a S', m S = some (.exc k a S') ∧ r = .exc k a S') ∨ ∃ x S', m S = some (.ok x S') ∧ f x S' = some r := by
  unfold bnd at h
  cases e : m S with
  | none => rw [e] at h; cases h
  | some o =>
    rw [e] at h
    cases o with
    | exc k a S' =>
      cases h
      exact .inl ⟨k, a, S', rfl, rfl⟩
    | ok x S' => exact .inr ⟨x, S', rfl, h⟩
theorem callP_ok {mf : List W → Mo W} {ks : List Str} {ns : Nat}
    (l1 : ∀ ρ S ws S', ms ρ S = some (.ok ws S') → ws.length = ns) (l2 : ∀ ρ S ws S', ms2 ρ S = some (.ok ws S') → ws.length = ks.length) (σ : L2.St) (H : Hp) (Q : VK)
    (h : tE X.K xr Wx (fun ρ => bnd (ms ρ) fun ws => bnd (ms2 ρ) fun us => bnd (lift (permW (ws ++ us) perm)) fun vs => mf vs) σ H Q) :
    tCallP (spD X.K xr mf) (WE Wx) ns ks perm (tA X.K xr Wx ms) (tA X.K xr Wx ms2) σ H Q := by
  obtain ⟨μ, ρ, S, z, hs, hr, hm, fi⟩ := h
  show tA X.K xr Wx ms σ H _
  rcases bnd_inv hm with ⟨k, a, S1, e, rfl⟩ | ⟨ws, S1, e, h1⟩
  · exact ⟨μ, ρ, S, _, hs, hr, e, fi⟩
  · refine ⟨μ, ρ, S, _, hs, hr, e, fun μ1 H1 vs st rs rw_ => ?_⟩
    rcases bnd_inv h1 with ⟨k, a, S2, e2, rfl⟩ | ⟨us, S2, e2, h2⟩
    · exact ⟨μ1, ρ, S1, _, rs, hr.stp st, e2, fi.stp st⟩
    · refine ⟨μ1, ρ, S1, _, rs, hr.stp st, e2, fun μ2 H2 zs st2 rs2 rw2 => ?_⟩
      obtain ⟨vv, ev, h3⟩ := lift_ok h2
      have ra := (rw_.stp st2).append rw2
      obtain ⟨ys, q1, q2⟩ := permW_ok ra ev
      refine ⟨rw_.length.symm.trans (l1 _ _ _ _ e), rw2.length.symm.trans (l2 _ _ _ _ e2), ys, q1, ?_⟩
      exact call_fi rs2 q2 h3 ((fi.stp st).stp st2)
theorem e_callK (g : Gd T sm xr k Γ X Wx) (hf : f < T.nf) (hg : glB Γ (T.fname f) = true) (ho : okN (T.fname f) = true) (hk : kwS kws = true) (hmem : ((a :: es).length, kwn kws, perm) ∈ T.kws f)
    (hn : nst a = true) (hns : es.all nst = true) (ha : EA X xr Wx (a :: es) ms) (hkw : EK X xr Wx kws ms2) 
    (l1 : ∀ ρ S ws S', ms ρ S = some (.ok ws S') → ws.length = (a :: es).length) (l2 : ∀ ρ S ws S', ms2 ρ S = some (.ok ws S') → ws.length = (kwn kws).length) :
    EE X xr Wx (.Call (.Name (T.fname f) p) (a :: es) kws pos) fun ρ => bnd (ms ρ) fun ws => bnd (ms2 ρ) fun us => bnd (lift (permW (ws ++ us) perm)) fun vs => sm.call f vs := by
  obtain ⟨ad, fd, ps, h1, h2, F, B, KW⟩ := g.call f hf
  obtain ⟨k1, k2, k3⟩ := kw_facts (env := X.env) (pos := pos) hk
  refine PEw (pe_callP (E := WE Wx) F g.room g.grd (g.gl hg) h1 h2 (KW _ _ _ hmem) (fun σ => passAt g.tk σ) ha hkw k1 k2 (okN_ok ho).1 (star_cons hn) (by rw [k3, star_any (by rw [List.all_cons, hn, hns]; rfl)]; rfl)) fun σ H Q h => callP_ok l1 l2 σ H Q h
theorem e_callK0 (g : Gd T sm xr k Γ X Wx) (hf : f < T.nf) (hg : glB Γ (T.fname f) = true) (ho : okN (T.fname f) = true) (hk : kwS kws = true) (hmem : (0, kwn kws, perm) ∈ T.kws f)
    (hkw : EK X xr Wx kws ms2) (l2 : ∀ ρ S ws S', ms2 ρ S = some (.ok ws S') → ws.length = (kwn kws).length) :
    EE X xr Wx (.Call (.Name (T.fname f) p) [] kws pos) fun ρ => bnd (re []) fun ws => bnd (ms2 ρ) fun us => bnd (lift (permW (ws ++ us) perm)) fun vs => sm.call f vs := by
  obtain ⟨ad, fd, ps, h1, h2, F, B, KW⟩ := g.call f hf
  obtain ⟨k1, k2, k3⟩ := kw_facts (env := X.env) (pos := pos) hk
  refine PEw (pe_callP0 (E := WE Wx) F g.room g.grd (g.gl hg) h1 h2 (KW _ _ _ hmem) (fun σ => passAt g.tk σ) hkw k1 k2 (okN_ok ho).1 (by rw [k3, star_any (by rfl)]; rfl)) fun σ H Q h => ?_
  have h2 := callP_ok (xr := xr) (Wx := Wx) (X := X) (ms := fun _ => re []) (ms2 := ms2) (perm := perm) (mf := sm.call f) (ks := kwn kws) (ns := 0) (fun ρ S ws S' e => by cases e; rfl) l2 σ H Q h
  obtain ⟨μ, ρ, S, r, hs, hr, hm, q⟩ := h2
  cases hm
  exact q μ H [] (Stp.refl hs) hs .nil
theorem evEs_app {Γ : Sm} : ∀ (es fs : List Ex) (ρ : Env') , evEs Γ (es ++ fs) ρ = bnd (evEs Γ es ρ) fun ws => bnd (evEs Γ fs ρ) fun us => re (ws ++ us)
  | [], fs, ρ => by
    funext S
    simp only [List.nil_append, evEs]
    show _ = (bnd (evEs Γ fs ρ) fun us => re us) S
    unfold bnd re
    cases evEs Γ fs ρ S with
    | none => rfl
    | some o => cases o <;> rfl
  | e :: es, fs, ρ => by
    simp only [List.cons_append, evEs, evEs_app es fs ρ, bnd_assocF]
    rfl
theorem evEs_len {Γ : Sm} : ∀ (es : List Ex) (ρ : Env') (S : Sto) (ws : List W) (S' : Sto), evEs Γ es ρ S = some (.ok ws S') → ws.length = es.length
  | [], ρ, S, ws, S', h => by
    cases h
    rfl
  | e :: es, ρ, S, ws, S', h => by
    simp only [evEs, bnd] at h
    split at h <;> first | (cases h; done) | skip
    split at h <;> first | (cases h; done) | skip
    rename_i e2
    cases h
    simp only [List.length_cons]
    rw [evEs_len es _ _ _ _ e2]
end
end DL

namespace DL
open PySem PySem.Spec PyProof.Rows L2

/-! ### targets -/
/-- a target takes data -/
def tGt (K : PySem.W.Frag) (sl : List Nat) (m : PyData → Env' → Mo Env') : TG := fun v σ H Q => ∃ μ ρ S d ρ' S', RS K μ S H ∧ RE K μ H ρ σ ∧ RD K μ H d v ∧ m d ρ S = some (.ok ρ' S') ∧
  ∀ μ' H' σ', Stp μ H μ' H' → RS K μ' S' H' → RE K μ' H' ρ' σ' → (∀ vs : List Nat, (∀ i ∈ sl, i ∈ vs) → wipe σ' vs = wipe σ vs) → Q σ' H'
def tGts (K : PySem.W.Frag) (sl : List Nat) (m : List PyData → Env' → Mo Env') : TGs := fun v σ H Q => ∃ μ ρ S d ρ' S', RS K μ S H ∧ RE K μ H ρ σ ∧ RDs K μ H d v ∧ m d ρ S = some (.ok ρ' S') ∧
  ∀ μ' H' σ', Stp μ H μ' H' → RS K μ' S' H' → RE K μ' H' ρ' σ' → (∀ vs : List Nat, (∀ i ∈ sl, i ∈ vs) → wipe σ' vs = wipe σ vs) → Q σ' H'
theorem wipe_set' {σ : L2.St} {x : Option V} {i : Nat} : ∀ {vs : List Nat}, i ∈ vs → wipe (σ.set i x) vs = wipe σ vs
  | v :: vs, h => by
    unfold wipe
    by_cases hv : i ∈ vs
    · rw [wipe_set' hv]
    · have e : i = v := by
        rcases List.mem_cons.mp h with q | q
        · exact q
        · exact absurd q hv
      subst e
      have key : ∀ (ws : List Nat) (τ : L2.St), i ∉ ws → wipe (τ.set i x) ws = (wipe τ ws).set i x := by
        intro ws
        induction ws with
        | nil => intro τ _; rfl
        | cons w ws ih =>
          intro τ hw
          have h1 : i ≠ w := fun e => hw (by rw [e]; exact List.mem_cons_self)
          have h2 : i ∉ ws := fun z => hw (List.mem_cons_of_mem _ z)
          unfold wipe
          rw [ih τ h2, List.set_comm _ _ (by omega)]
      rw [key vs σ hv, List.set_set]
theorem wipe_none {σ : L2.St} {i : Nat} (h : σ[i]? = some none ∨ σ[i]? = none) : σ.set i none = σ := by
  apply List.ext_getElem?
  intro j
  by_cases e : i = j
  · subst e
    rcases h with h | h
    · have hl := (List.getElem?_eq_some_iff.mp h).1
      rw [List.getElem?_set_self hl, h]
    · have hl := List.getElem?_eq_none_iff.mp h
      rw [List.getElem?_eq_none (by simpa using hl), h]
  · rw [List.getElem?_set_ne e]
section
variable {X : Cx} {xr : XRel} {Wx : WX} {pos p p2 kp : Pos} {a b c e tg : Expr} {es : List Expr} {ma mb mc m : Env' → Mo W} {ms ms2 : Env' → Mo (List W)} {i : Nat} {x : Str} {T : Tb} {sm : Sm} {k : Nat} {Γ : Cfg}
abbrev EG (X : Cx) (tg : Expr) (p : Pat) : Prop := PG X tg (tGt X.K p.slots (asg p))
abbrev EGs (X : Cx) (tg : List Expr) (p : List Pat) : Prop := PGs X tg (tGts X.K (Pat.slotss p) (asgs p))
theorem PGw {X : Cx} {e : Expr} {t t' : TG} (h : PG X e t) (w : ∀ v σ H Q, t' v σ H Q → t v σ H Q) : PG X e t' := ⟨fun pins s σ H v u Q I r q => h.run pins s σ H v u Q I r (w _ _ _ _ q)⟩
theorem PGsw {X : Cx} {e : List Expr} {t t' : TGs} (h : PGs X e t) (w : ∀ v σ H Q, t' v σ H Q → t v σ H Q) : PGs X e t' := ⟨fun pins s σ H v u Q I r q => h.run pins s σ H v u Q I r (w _ _ _ _ q)⟩
theorem g_nm (g : Gd T sm xr k Γ X Wx) (hi : Γ.N[i]? = some x) (hs : stB Γ x = true) : EG X (.Name x p) (.nm i) := by
  obtain ⟨h1, h2⟩ := g.st hs
  refine PGw (pg_name g.xnd (g.n hi) h1 h2) fun v σ H Q h => ?_
  obtain ⟨μ, ρ, S, d, ρ', S', hs, hr, hd, hm, q⟩ := h
  cases hm
  exact q μ H _ (Stp.refl hs) hs (hr.set (w := .d d) hd) fun vs hv => wipe_set' (hv i (by simp [Pat.slots]))
theorem gs_nil : EGs X [] [] := PGsw pgs_nil fun v σ H Q h => by
  obtain ⟨μ, ρ, S, d, ρ', S', hs, hr, hd, hm, q⟩ := h
  cases hd with
  | nil =>
    cases hm
    exact ⟨rfl, q μ H _ (Stp.refl hs) hs hr fun _ _ => rfl⟩
  | cons a b => cases hm
theorem asgn_cons {env : Env} (hn : nst e = true) : assignEach (e :: es) env = (false, assign e env) :: assignEach es env := by
  cases e <;> first | rfl | cases hn
theorem asgn_len {env : Env} : ∀ {es : List Expr}, es.all nst = true → (assignEach es env).length = es.length ∧ (assignEach es env).findIdx? (·.1) = none
  | [], _ => ⟨rfl, rfl⟩
  | e :: es, h => by
    rw [List.all_cons, Bool.and_eq_true] at h
    obtain ⟨a, b⟩ := asgn_len (env := env) h.2
    rw [asgn_cons h.1]
    refine ⟨by simp [a], ?_⟩
    rw [List.findIdx?_cons]
    simp [b]
mutual
theorem asg_ne : ∀ (p : Pat) (d : PyData) (ρ : Env') (S : Sto) (k : Nat) (a : PyData) (S' : Sto), asg p d ρ S ≠ some (.exc k a S')
  | .nm i, d, ρ, S, k, a, S' => by
    rw [asg]
    intro h; cases h
  | .tp ps, d, ρ, S, k, a, S' => by
    cases d <;> first | (simp [asg, no]; done) | skip
    all_goals
      simp only [asg]
      exact asgs_ne ps _ ρ S k a S'
  | .sb i kk, d, ρ, S, k, a, S' => by
    rw [asg]
    intro h
    dsimp only at h
    split at h <;> first | (cases h; done) | skip
    split at h <;> first | (cases h; done) | skip
    split at h <;> cases h
theorem asgs_ne : ∀ (p : List Pat) (d : List PyData) (ρ : Env') (S : Sto) (k : Nat) (a : PyData) (S' : Sto), asgs p d ρ S ≠ some (.exc k a S')
  | [], [], ρ, S, k, a, S' => by
    rw [asgs]
    intro h; cases h
  | [], d :: ds, ρ, S, k, a, S' => by
    rw [asgs]
    · intro h; cases h
    · intro a b; cases b
    · intro a b c d e f; cases e
  | p :: ps, [], ρ, S, k, a, S' => by
    rw [asgs]
    · intro h; cases h
    · intro a b; cases a
    · intro a b c d e f; cases f
  | p :: ps, d :: ds, ρ, S, k, a, S' => by
    rw [asgs]
    intro h
    rcases bnd_inv h with ⟨k, a, S1, e, _⟩ | ⟨x, S1, e, h1⟩
    · exact asg_ne p d ρ S _ _ _ e
    · exact asgs_ne ps ds x S1 _ _ _ h1
end
theorem gs_cons {q : Pat} {qs : List Pat} (hn : nst e = true) (h1 : EG X e q) (h2 : EGs X es qs) : EGs X (e :: es) (q :: qs) := PGsw (pgs_cons h1 h2 (by rw [asgn_cons hn]; rfl)) fun v σ H Q h => by
  obtain ⟨μ, ρ, S, d, ρ', S', hs, hr, hd, hm, fi⟩ := h
  cases hd with
  | nil => rw [asgs] at hm <;> first | cases hm | (intro a b; cases a) | (intro a b c d e f; cases f)
  | cons a b =>
    rw [asgs] at hm
    rcases bnd_inv hm with ⟨k, a, S1, e, _⟩ | ⟨ρ1, S1, e, h1⟩
    · exact absurd e (asg_ne _ _ _ _ _ _ _)
    · refine ⟨_, _, rfl, μ, ρ, S, _, ρ1, S1, hs, hr, a, e, fun μ1 H1 σ1 st rs re wp => ?_⟩
      refine ⟨μ1, ρ1, S1, _, ρ', S', rs, re, RDs.stp st _ _ b, h1, fun μ2 H2 σ2 st2 rs2 re2 wp2 => ?_⟩
      refine fi μ2 H2 σ2 (st.trans st2) rs2 re2 fun vs hv => ?_
      rw [wp2 vs fun i hi => hv i (by simp only [Pat.slotss, List.mem_append]; exact .inr hi), wp vs fun i hi => hv i (by simp only [Pat.slotss, List.mem_append]; exact .inl hi)]
theorem asgs_len : ∀ {p : List Pat} {d : List PyData} {ρ : Env'} {S : Sto} {r : Out Env'}, asgs p d ρ S = some r → (∀ k a S', r ≠ .exc k a S') → p.length = d.length
  | [], [], ρ, S, r, h, _ => rfl
  | [], d :: ds, ρ, S, r, h, _ => by
    rw [asgs] at h
    · cases h
    · intro a b; cases b
    · intro a b c d e f; cases e
  | p :: ps, [], ρ, S, r, h, _ => by
    rw [asgs] at h
    · cases h
    · intro a b; cases a
    · intro a b c d e f; cases f
  | p :: ps, d :: ds, ρ, S, r, h, n => by
    rw [asgs] at h
    rcases bnd_inv h with ⟨k, a, S1, e, q⟩ | ⟨x, S1, e, h1⟩
    · exact absurd q (n _ _ _)
    · simp [asgs_len h1 n]
theorem EGs.len {X : Cx} {es : List Expr} {qs : List Pat} (n : qs.length = es.length) : True := trivial
theorem PG.or_ {X : Cx} {e : Expr} {t u : TG} (h1 : PG X e t) (h2 : PG X e u) : PG X e (fun v σ H Q => t v σ H Q ∨ u v σ H Q) := ⟨fun pins s σ H v z Q I r h => by
  rcases h with h | h
  · exact h1.run pins s σ H v z Q I r h
  · exact h2.run pins s σ H v z Q I r h⟩
theorem g_tp {qs : List Pat} {kk : Nat} (hc : X.calm = true) (hns : es.all nst = true) (hl : qs.length = es.length) (h : EGs X es qs) : EG X (.Tuple es kk pos) (.tp qs) := PGw (PG.or_ (pg_tup hc h (asgn_len hns).1 (asgn_len hns).2) (pg_unl hc h (asgn_len hns).1 (asgn_len hns).2)) fun v σ H Q q => by
  obtain ⟨μ, ρ, S, d, ρ', S', hs, hr, hd, hm, fi⟩ := q
  cases d <;> first | (simp [asg, no] at hm; done) | skip
  · simp only [asg] at hm
    cases hd with
    | lst h1 _ _ h2 =>
      refine .inr ⟨_, _, rfl, .inl h1, ?_, μ, ρ, S, _, ρ', S', hs, hr, h2, hm, fun μ' H' σ' st rs re wp => fi μ' H' σ' st rs re fun vs hv => wp vs fun i hi => hv i (by simp only [Pat.slots]; exact hi)⟩
      rw [← h2.length, ← asgs_len hm (by simp), hl]
  · simp only [asg] at hm
    cases hd with
    | tup h1 h2 =>
      refine .inl ⟨_, _, rfl, h1, ?_, μ, ρ, S, _, ρ', S', hs, hr, h2, hm, fun μ' H' σ' st rs re wp => fi μ' H' σ' st rs re fun vs hv => wp vs fun i hi => hv i (by simp only [Pat.slots]; exact hi)⟩
      rw [← h2.length, ← asgs_len hm (by simp), hl]
theorem g_sb {kk : Int} {c : Nat} (g : Gd T sm xr k Γ X Wx) (hi : Γ.N[i]? = some x) (hv : visB Γ x = true) (ho : okN x = true) : EG X (.Subscript (.Name x p) (.Constant (.int kk) c p2) pos) (.sb i kk) := PGw (pg_sub (pe_var (g.n hi) (g.vis hv) (okN_ok ho).1 (okN_ok ho).2.1) pe_int set_list) fun v σ H Q q => by
  obtain ⟨μ, ρ, S, d, ρ', S', hs, hr, hd, hm, fi⟩ := q
  rw [asg] at hm
  dsimp only at hm
  split at hm <;> first | (cases hm; done) | skip
  rename_i j e1
  split at hm <;> first | (cases hm; done) | skip
  rename_i xs e2
  split at hm <;> first | (cases hm; done) | skip
  rename_i mm e3
  cases hm
  obtain ⟨v', ev, aj, ej, rfl⟩ := hr.at_ i _ e1
  obtain ⟨vs, e4, r4⟩ := hs.at_ j aj xs ej e2
  obtain ⟨st, rs⟩ := write_loc hs ej (RDs.set mm hd r4)
  exact ⟨_, ev, aj, vs, kk, mm, rfl, rfl, e4, by rw [← r4.length]; exact e3, fi μ _ σ st rs (hr.stp st) fun _ _ => rfl⟩
end
end DL

namespace DL
open PySem PySem.Spec PyProof.Rows L2
section
variable {K : PySem.W.Frag} {μ μ' : Mu} {S S' : Sto} {H H' : Hp} {D : Addr}
theorem fresh_hid (hs : RS K μ S H) {vs : List V} (hD : H D = none) : Stp μ H ⟨μ.l, D :: μ.h⟩ (upd H D (.lst vs)) ∧ RS K ⟨μ.l, D :: μ.h⟩ S (upd H D (.lst vs)) := by
  obtain ⟨_, _, n1, n2⟩ := fresh_stp (o := .lst vs) hs hD
  have st : Stp μ H ⟨μ.l, D :: μ.h⟩ (upd H D (.lst vs)) := ⟨⟨[], by simp⟩, fun a u h _ => by rw [upd_ne (ne_of_none h hD)]; exact h, fun _ h => .inl h, hs.lstAt, fun a h => by
    rcases List.mem_cons.mp h with q | q
    · subst q; exact .inr hD
    · exact .inl q, fun a h => List.mem_cons_of_mem _ h⟩
  refine ⟨st, hs.len, hs.nd, fun j a xs e1 e2 => ?_, fun a ha => ?_⟩
  · obtain ⟨us, a1, a2⟩ := hs.at_ j a xs e1 e2
    exact ⟨us, by rw [upd_ne (ne_of_none a1 hD)]; exact a1, RDs.stp st xs us a2⟩
  · rcases List.mem_cons.mp ha with q | q
    · subst q
      exact ⟨n1, vs, upd_same⟩
    · obtain ⟨h1, us, h2⟩ := hs.hid a q
      exact ⟨h1, us, by rw [upd_ne (ne_of_none h2 hD)]; exact h2⟩
theorem Stp.updHid {o : HO} (hD : H D = none) (s : Stp μ H μ' H') : Stp μ H μ' (upd H' D o) := ⟨s.pre, fun a u h n => by rw [upd_ne (ne_of_none h hD)]; exact s.keep a u h n, s.new, s.old, s.hnew, s.hsub⟩
theorem drop_hid {acc : List PyData} {vs : List V} (hs0 : RS K μ S H) (hD : H D = none) (s : Stp μ H μ' H') (hs : RS K μ' S' H') (hd : D ∈ μ'.h) (e : H' D = some (.lst vs)) (r : RDs K μ' H' acc vs) :
    Stp μ H ⟨μ'.l, μ.h⟩ H' ∧ RS K ⟨μ'.l, μ.h⟩ S' H' ∧ RD K ⟨μ'.l, μ.h⟩ H' (.list acc) (.ref D) := by
  have g : Gen K μ' H' ⟨μ'.l, μ.h⟩ H' := gen_less fun a h => by
    rcases h with q | q
    · exact .inl q
    · exact .inr (s.hsub a q)
  refine ⟨⟨s.pre, s.keep, s.new, s.old, fun _ h => .inl h, fun _ h => h⟩, ⟨hs.len, hs.nd, fun j a xs e1 e2 => ?_, fun a ha => hs.hid a (s.hsub a ha)⟩, .lst (.inl e) (hs.hid D hd).1 (fun z => ?_) (RDs.gen g _ _ r)⟩
  · obtain ⟨us, a1, a2⟩ := hs.at_ j a xs e1 e2
    exact ⟨us, a1, RDs.gen g _ _ a2⟩
  · obtain ⟨_, us, q⟩ := hs0.hid D z
    rw [hD] at q; cases q
theorem RE.wipe {ρ : Env'} {σ : L2.St} (h : RE K μ H ρ σ) : ∀ vs : List Nat, RE K μ H (wipeE ρ vs) (L2.wipe σ vs)
  | [] => h
  | v :: vs => (RE.wipe h vs).clear
end
theorem wipe_sub {σ : L2.St} {vs : List Nat} : ∀ {ws : List Nat}, (∀ i ∈ ws, i ∈ vs) → wipe (wipe σ ws) vs = wipe σ vs
  | [], _ => rfl
  | w :: ws, h => by
    show wipe ((wipe σ ws).set w none) vs = _
    rw [wipe_set' (h w List.mem_cons_self)]
    exact wipe_sub fun i hi => h i (List.mem_cons_of_mem _ hi)
theorem noexc_ok {α : Type} {m : Mo α} {S : Sto} {r : Out α} (h : noexc m S = some r) : ∃ x S', m S = some (.ok x S') ∧ r = .ok x S' := by
  unfold noexc at h
  split at h
  · cases h; exact ⟨_, _, by assumption, rfl⟩
  · cases h
theorem staying_ok {α : Type} {S0 : Sto} {g : List Nat} {m : Mo α} {S : Sto} {r : Out α} (h : staying S0 g m S = some r) : stay S0 S g ∧ m S = some r := by
  classical
  unfold staying at h
  split at h
  · exact ⟨by assumption, h⟩
  · cases h
abbrev W0 : WX := fun _ _ _ _ => False
section
variable {X : Cx} {xr : XRel} {Wx : WX} {pos : Pos} {tg iter elt : Expr} {ifs : List Expr} {ms : Env' → Mo (List W)} {me : Env' → Mo W} {mc : Env' → Mo Bool} {T : Tb} {sm : Sm} {k : Nat} {Γ : Cfg} {scope : Scope} {ownp : List (Str × Nat)} {own : List Nat} {kk : SK} {q : Pat}
noncomputable abbrev cmprM (kk : SK) (ms : Env' → Mo (List W)) (q : Pat) (mc : Env' → Mo Bool) (me : Env' → Mo W) (own : List Nat) : Env' → Mo W := fun ρ => bnd (ms ρ) fun ws => fun S => match itemsOf kk ws S with
    | some (xs, g) => if xs.length ≤ LIM then (bnd (noexc (compL (asg q) mc me S g (wipeE ρ own) xs [])) fun ys => re (.d (.list ys))) S else none
    | none => none
theorem lc_read (hsl : ∀ i ∈ q.slots, i ∈ own) (σ : L2.St) (H : Hp) (Q : VK) (h : tE X.K xr Wx (cmprM kk ms q mc me own) σ H Q) :
    tLc (tI X.K xr Wx kk ms) (tGt X.K q.slots (asg q)) (tT X.K xr W0 mc) (tE X.K xr W0 me) own σ H Q := by
  obtain ⟨μ, ρ, S, z, hs, hr, hm, fi⟩ := h
  show tI X.K xr Wx kk ms σ H _
  rcases bnd_inv hm with ⟨k, a, S1, e, rfl⟩ | ⟨ws, S1, e, h1⟩
  · exact ⟨μ, ρ, S, _, hs, hr, e, fi⟩
  refine ⟨μ, ρ, S, _, hs, hr, e, ?_⟩
  dsimp only at h1 ⊢
  split at h1
  · rename_i xs g ei
    split at h1
    · rename_i hlen
      rcases bnd_inv h1 with ⟨k, a, S2, e2, _⟩ | ⟨ys, S2, e2, h2⟩
      · obtain ⟨_, _, _, e3⟩ := noexc_ok e2
        cases e3
      obtain ⟨ys', S2', e3, e4⟩ := noexc_ok e2
      cases e4
      cases h2
      refine ⟨xs, g, ei, fun μ1 H1 J st1 rs1 liv D hD => ?_⟩
      obtain ⟨stD, rsD⟩ := fresh_hid (vs := []) rs1 hD
      refine ⟨fun i m H' => i ≤ xs.length ∧ m = xs.length - i ∧ ∃ μ' S' acc accV, D ∈ μ'.h ∧ Stp μ1 H1 μ' H' ∧ RS X.K μ' S' H' ∧ H' D = some (.lst accV) ∧ RDs X.K μ' H' acc accV ∧ acc.length ≤ i ∧
        compL (asg q) mc me S1 g (wipeE ρ own) (xs.drop i) acc S' = some (.ok ys S2), ⟨xs.length, by omega, by omega, _, S1, [], [], List.mem_cons_self, stD, rsD, upd_same, .nil, by simp, by simpa using e3⟩, ?_⟩
      rintro i m H' ⟨hi, rfl, μ', S', acc, accV, hd, st, rs, eD, ra, hal, hc⟩
      by_cases hx : i = xs.length
      · subst hx
        rw [List.drop_length, compL] at hc
        obtain ⟨sy, hc⟩ := staying_ok hc
        cases hc
        refine .inl ⟨(liv μ' _ H' st rs sy).2, ?_⟩
        obtain ⟨k1, k2, k3⟩ := drop_hid rs1 hD st rs hd eD ra
        exact fi _ _ _ (st1.trans k1) k2 k3
      · have hlt : i < xs.length := by omega
        rw [List.drop_eq_getElem_cons hlt, compL] at hc
        obtain ⟨sy, hc⟩ := staying_ok hc
        obtain ⟨go, yl⟩ := (liv μ' S' H' st rs sy).1 i xs[i] (List.getElem?_eq_getElem hlt)
        refine .inr ⟨go, _, fun H'' w => ⟨xs.length - (i + 1), by omega, w⟩, fun x' H2 y => ?_⟩
        obtain ⟨st2, rs2, rd2⟩ := yl x' H2 y
        rcases bnd_inv hc with ⟨k, a, S3, e5, _⟩ | ⟨ρ2, S3, e5, h5⟩
        · exact absurd e5 (asg_ne _ _ _ _ _ _ _)
        refine ⟨μ', wipeE ρ own, S', xs[i], ρ2, S3, rs2, ((((hr.stp st1).stp st).stp st2).wipe own), rd2, e5, fun μ3 H3 σ3 st3 rs3 re3 wp3 => ⟨(wp3 own hsl).trans (wipe_sub fun _ h => h), ?_⟩⟩
        have fi0 : Fi X.K xr W0 (fun _ _ (_ : List PyData) (_ : Unit) => False) μ3 H3 σ3 (fun _ _ => True) (.ok ys S2) := fun _ _ _ _ _ _ => trivial
        refine sq rs3 re3 h5 fi0 fun μ4 S4 H4 b b' st4 rs4 re4 rw4 h6 fi4 => ?_
        have eb : b = b' := rw4
        subst eb
        have eD4 : H4 D = some (.lst accV) := st4.keep _ _ (st3.keep _ _ (st2.keep _ _ eD (rs.hid D hd).1) (rs2.hid D hd).1) (rs3.hid D (st3.hsub D hd)).1
        have hd4 : D ∈ μ4.h := st4.hsub D (st3.hsub D hd)
        have st14 : Stp μ1 H1 μ4 H4 := ((st.trans st2).trans st3).trans st4
        have ra4 : RDs X.K μ4 H4 acc accV := RDs.stp st4 _ _ (RDs.stp st3 _ _ (RDs.stp st2 _ _ ra))
        cases b with
        | false =>
          rw [if_neg (by decide)] at h6 ⊢
          exact ⟨by omega, rfl, μ4, S4, acc, accV, hd4, st14, rs4, eD4, ra4, by omega, h6⟩
        | true =>
          rw [if_pos rfl] at h6 ⊢
          refine sq rs4 re4 h6 fi4 fun μ5 S5 H5 w y st5 rs5 re5 rw5 h7 fi5 => ?_
          obtain ⟨d, rd5, h8⟩ := onD_ok rw5 h7
          have eD5 : H5 D = some (.lst accV) := st5.keep _ _ eD4 (rs4.hid D hd4).1
          have hd5 : D ∈ μ5.h := st5.hsub D hd4
          have gg : Gen X.K μ5 H5 μ5 (upd H5 D (.lst (accV ++ [y]))) := hid_gen hd5 ⟨_, eD5⟩
          have hl := ra4.length
          refine ⟨accV, eD5, ?_, ⟨by omega, rfl, μ5, S5, acc ++ [d], accV ++ [y], hd5, (st14.trans st5).updHid hD, hid_write rs5 hd5, upd_same, RDs.gen gg _ _ ((RDs.stp st5 _ _ ra4).append (.cons rd5 .nil)), by simp; omega, h8⟩⟩
          rw [sizeLine_eq]
          have : LIM = 100000 := rfl
          omega
    · cases h1
  · cases h1
theorem e_cmpr (g : Gd T sm xr k Γ X Wx) (hi : PI X tg iter (tI X.K xr Wx kk ms)) (ok : BlkOk X.N X.env.scope scope ownp) (ho : ownp.map (·.2) = own) (hsl : ∀ i ∈ q.slots, i ∈ own) (hn : nset iter = true)
    (hg : ∀ (s : Shared) (H : Hp) (C : Addr) (cl : List (Str × Addr)) (fp : List Addr), EG (X.blk s H scope (compEnvC scope cl C X.env) fp) tg q)
    (ht : ∀ (s : Shared) (H : Hp) (C : Addr) (cl : List (Str × Addr)) (fp : List Addr), PTs (X.blk s H scope (compEnvC scope cl C X.env) fp) ifs (tT X.K xr W0 mc))
    (he : ∀ (s : Shared) (H : Hp) (C : Addr) (cl : List (Str × Addr)) (fp : List Addr), EE (X.blk s H scope (compEnvC scope cl C X.env) fp) xr W0 elt me) :
    EE X xr Wx (.ListComp elt [⟨tg, iter, ifs, 0⟩] scope pos) (cmprM kk ms q mc me own) := by
  subst ho
  exact PEw (pe_lc g.calm g.xnd hi ok hg ht he (nset_eq hn)) fun σ H Q h => lc_read hsl σ H Q h
end
end DL

namespace DL
open PySem PySem.Spec PyProof.Rows L2

/-! ### that a text is a code -/
def srcArgs (Γ : Cfg) (tg : Expr) : SK → Expr → Option (List Expr)
  | .seq, e => some [e]
  | .rng1, e => match e with
    | .Call (.Name n _) [a] [] _ => if decide (n = "range") && glB Γ "range" && nst a then some [a] else none
    | _ => none
  | .rng2, e => match e with
    | .Call (.Name n _) [a, b] [] _ => if decide (n = "range") && glB Γ "range" && nst a && nst b then some [a, b] else none
    | _ => none
  | .enum, e => match tg, e with
    | .Tuple _ _ _, .Call (.Name n _) [a] [] _ => if decide (n = "enumerate") && glB Γ "enumerate" && nst a then some [a] else none
    | _, _ => none
  | .zip, e => match tg, e with
    | .Tuple _ _ _, .Call (.Name n _) [a, b] [] _ => if decide (n = "zip") && glB Γ "zip" && nst a && nst b then some [a, b] else none
    | _, _ => none
mutual
def chkP (Γ : Cfg) : Pat → Expr → Bool
  | .nm i, x => match x with
    | .Name n _ => decide (Γ.N[i]? = some n) && stB Γ n
    | _ => false
  | .tp ps, x => match x with
    | .Tuple es _ _ => es.all nst && decide (ps.length = es.length) && chkPs Γ ps es
    | _ => false
  | .sb i k, x => match x with
    | .Subscript (.Name n _) (.Constant (.int j) _ _) _ => decide (Γ.N[i]? = some n) && visB Γ n && okN n && decide (j = k)
    | _ => false
def chkPs (Γ : Cfg) : List Pat → List Expr → Bool
  | [], xs => xs.isEmpty
  | p :: ps, xs => match xs with
    | x :: xs => nst x && chkP Γ p x && chkPs Γ ps xs
    | [] => false
end
def ownP (Γ : Cfg) (own : List Nat) : List (Str × Nat) := own.filterMap fun i => (Γ.N[i]?).map fun n => (n, i)
abbrev blkG (Γ : Cfg) (scope : Scope) : Cfg := { Γ with sc := relS scope Γ.sc, raw := some scope }
mutual
def chkE (T : Tb) : Ex → Cfg → Expr → Bool
  | .var i, Γ, x => match x with
    | .Name n _ => decide (Γ.N[i]? = some n) && visB Γ n && okN n
    | _ => false
  | .cI i, _, x => match x with
    | .Constant (.int j) _ _ => decide (i = j)
    | _ => false
  | .cB i, _, x => match x with
    | .Constant (.bool j) _ _ => decide (i = j)
    | _ => false
  | .cN, _, x => match x with
    | .Constant .none _ _ => true
    | _ => false
  | .cS i, _, x => match x with
    | .Constant (.str j) _ _ => decide (i = j)
    | _ => false
  | .glo g, Γ, x => match x with
    | .Name n _ => decide (n = T.gname g) && glB Γ n && okN n
    | _ => false
  | .bin o a b, Γ, x => match x with
    | .BinOp l op r _ => decide (op = tokO o) && chkE T a Γ l && chkE T b Γ r
    | _ => false
  | .neg a, Γ, x => match x with
    | .UnaryOp .USub l _ => chkE T a Γ l
    | _ => false
  | .cmp o a b, Γ, x => match x with
    | .Compare l [op] [r] _ => decide (op = tokC o) && nset r && chkE T a Γ l && chkE T b Γ r
    | _ => false
  | .chn o o' a b c, Γ, x => match x with
    | .Compare l [op, op'] [r, s] _ => decide (op = tokC o) && decide (op' = tokC o') && nset s && chkE T a Γ l && chkE T b Γ r && chkE T c Γ s
    | _ => false
  | .and es, Γ, x => match x with
    | .BoolOp .And vs _ => !es.isEmpty && chkEs T es Γ vs
    | _ => false
  | .or es, Γ, x => match x with
    | .BoolOp .Or vs _ => !es.isEmpty && chkEs T es Γ vs
    | _ => false
  | .not a, Γ, x => match x with
    | .UnaryOp .Not l _ => chkE T a Γ l
    | _ => false
  | .ite t a b, Γ, x => match x with
    | .IfExp u l r _ => chkE T t Γ u && chkE T a Γ l && chkE T b Γ r
    | _ => false
  | .tup es, Γ, x => match x with
    | .Tuple vs _ _ => vs.all nst && chkEs T es Γ vs
    | _ => false
  | .lst es, Γ, x => match x with
    | .List vs _ => vs.all nst && chkEs T es Γ vs
    | _ => false
  | .lstL es, Γ, x => match x with
    | .List vs _ => vs.all nst && chkEs T es Γ vs
    | _ => false
  | .idx a i, Γ, x => match x with
    | .Subscript l r _ => plIx r && chkE T a Γ l && chkE T i Γ r
    | _ => false
  | .slc a f lo g hi, Γ, x => match x with
    | .Subscript l (.Slice lo' hi' none _) _ => chkE T a Γ l && (match f, lo' with
        | true, some e => chkE T lo Γ e
        | false, none => true
        | _, _ => false) && (match g, hi' with
        | true, some e => chkE T hi Γ e
        | false, none => true
        | _, _ => false)
    | _ => false
  | .isi Ty a, Γ, x => match x with
    | .Call (.Name n _) [y, .Name t _] [] _ => decide (n = "isinstance") && decide (t = nmTy Ty) && decide (Ty ∈ tyNames) && glB Γ n && glB Γ t && okN t && nst y && chkE T a Γ y
    | _ => false
  | .blt b es, Γ, x => match x with
    | .Call (.Name n _) (y :: ys) [] _ => decide (n = nameB b) && glB Γ n && (!isMath b || decide (b ∈ T.maths)) && nst y && ys.all nst && chkEs T es Γ (y :: ys)
    | _ => false
  | .rpr a, Γ, x => match x with
    | .Call (.Name n _) [y] [] _ => decide (n = "repr") && glB Γ n && nst y && chkE T a Γ y
    | _ => false
  | .call f es, Γ, x => match x with
    | .Call (.Name n _) (y :: ys) [] _ => decide (f < T.nf) && decide (n = T.fname f) && glB Γ n && okN n && nst y && ys.all nst && chkEs T es Γ (y :: ys)
    | _ => false
  | .callK f m perm es, Γ, x => match x with
    | .Call (.Name n _) ys kws _ => decide (f < T.nf) && decide (n = T.fname f) && glB Γ n && okN n && ys.all nst && kwS kws && decide ((m, kwn kws, perm) ∈ T.kws f) && decide (m = ys.length) && decide ((kwv kws).length = (kwn kws).length) && chkEs T es Γ (ys ++ kwv kws)
    | _ => false
  | .cmpr k src p cs e own, Γ, x => match x with
    | .ListComp elt [⟨tg, iter, ifs, 0⟩] scope _ => nset iter && blkC Γ.N Γ.sc scope (ownP Γ own) && decide ((ownP Γ own).map (·.2) = own) && (p.slots.all fun i => decide (i ∈ own)) && decide (cs.length ≤ 1) && (match srcArgs Γ tg k iter with
        | some ys => chkEs T src Γ ys
        | none => false) && chkP (blkG Γ scope) p tg && chkEs T cs (blkG Γ scope) ifs && chkE T e (blkG Γ scope) elt
    | _ => false
def chkEs (T : Tb) : List Ex → Cfg → List Expr → Bool
  | [], _, xs => xs.isEmpty
  | e :: es, Γ, xs => match xs with
    | x :: xs => chkE T e Γ x && chkEs T es Γ xs
    | [] => false
end
end DL

namespace DL
open PySem PySem.Spec PyProof.Rows L2
variable {T : Tb} {sm : Sm} {xr : XRel} {k : Nat}
mutual
theorem sndP {Γ : Cfg} {X : Cx} {Wx : WX} (g : Gd T sm xr k Γ X Wx) : ∀ (p : Pat) (x : Expr), chkP Γ p x = true → EG X x p
  | .nm i, x, h => by
    unfold chkP at h
    split at h
    · simp only [Bool.and_eq_true, decide_eq_true_eq] at h
      exact g_nm g h.1 h.2
    · cases h
  | .tp ps, x, h => by
    unfold chkP at h
    split at h
    · simp only [Bool.and_eq_true, decide_eq_true_eq] at h
      exact g_tp g.calm h.1.1 h.1.2 (sndPs g ps _ h.2)
    · cases h
  | .sb i kk, x, h => by
    unfold chkP at h
    split at h
    · simp only [Bool.and_eq_true, decide_eq_true_eq] at h
      obtain ⟨⟨⟨h1, h2⟩, h3⟩, rfl⟩ := h
      exact g_sb g h1 h2 h3
    · cases h
theorem sndPs {Γ : Cfg} {X : Cx} {Wx : WX} (g : Gd T sm xr k Γ X Wx) : ∀ (p : List Pat) (x : List Expr), chkPs Γ p x = true → EGs X x p
  | [], xs, h => by
    unfold chkPs at h
    cases xs with
    | nil => exact gs_nil
    | cons => cases h
  | p :: ps, xs, h => by
    unfold chkPs at h
    cases xs with
    | nil => cases h
    | cons x xs =>
      simp only [Bool.and_eq_true] at h
      exact gs_cons h.1.1 (sndP g p x h.1.2) (sndPs g ps xs h.2)
end
theorem if_re : (fun k : Bool => if k = true then re true else re false) = (re : Bool → Mo Bool) := by
  funext k
  cases k <;> rfl
theorem bnd_re' {α : Type} (m : Mo α) : bnd m re = m := by
  funext S
  unfold bnd re
  cases m S with
  | none => rfl
  | some o => cases o <;> rfl
/-- every one of a list is what its code says -/
inductive All2 (sm : Sm) (X : Cx) (xr : XRel) (Wx : WX) : List Ex → List Expr → Prop
  | nil : All2 sm X xr Wx [] []
  | cons {e : Ex} {x : Expr} {es : List Ex} {xs : List Expr} : EE X xr Wx x (evE sm e) → ET X xr Wx x (evE sm e) → All2 sm X xr Wx es xs → All2 sm X xr Wx (e :: es) (x :: xs)
section
variable {X : Cx} {Wx : WX} {pos : Pos}
theorem All2.len : ∀ {es : List Ex} {xs : List Expr}, All2 sm X xr Wx es xs → es.length = xs.length
  | _, _, .nil => rfl
  | _, _, .cons _ _ t => congrArg Nat.succ (All2.len t)
theorem All2.args : ∀ {es : List Ex} {xs : List Expr}, All2 sm X xr Wx es xs → xs.all nst = true → EA X xr Wx xs (evEs sm es)
  | _, _, .nil, _ => by
    have := a_nil (X := X) (xr := xr) (Wx := Wx)
    simpa only [evEs] using this
  | _, _, .cons h _ t, n => by
    rw [List.all_cons, Bool.and_eq_true] at n
    have := a_cons n.1 h (t.args n.2)
    simpa only [evEs] using this
theorem All2.split : ∀ {es : List Ex} {ys zs : List Expr}, All2 sm X xr Wx es (ys ++ zs) → ∃ es1 es2, es = es1 ++ es2 ∧ All2 sm X xr Wx es1 ys ∧ All2 sm X xr Wx es2 zs
  | es, [], zs, h => ⟨[], es, rfl, .nil, h⟩
  | _, y :: ys, zs, .cons h1 h2 t => by
    obtain ⟨a, b, rfl, p, q⟩ := t.split
    exact ⟨_ :: a, b, rfl, .cons h1 h2 p, q⟩
theorem All2.kws : ∀ {kws : List Keyword} {es : List Ex}, All2 sm X xr Wx es (kwv kws) → EK X xr Wx kws (evEs sm es)
  | [], _, .nil => by
    have := k_nil (X := X) (xr := xr) (Wx := Wx)
    simpa only [evEs] using this
  | ⟨n, e, kp⟩ :: r, _, .cons h _ t => by
    have := k_cons (nm := n) (kp := kp) h (All2.kws t)
    simpa only [evEs] using this
theorem All2.andV : ∀ {es : List Ex} {xs : List Expr}, All2 sm X xr Wx es xs → es ≠ [] → EE X xr Wx (.BoolOp .And xs pos) (andE sm es) ∧ EW X xr Wx (.BoolOp .And xs pos) (andE sm es)
  | _, _, .nil, n => absurd rfl n
  | _, _, .cons h1 h2 .nil, _ => by
    simp only [andE]
    exact ⟨pe_one h1, pw_and1 h2⟩
  | _, _, .cons h1 h2 (.cons h3 h4 t), _ => by
    obtain ⟨a, b⟩ := All2.andV (.cons h3 h4 t) (by simp)
    simp only [andE]
    exact ⟨e_and h1 a, w_and h2 b⟩
theorem All2.orV : ∀ {es : List Ex} {xs : List Expr}, All2 sm X xr Wx es xs → es ≠ [] → EE X xr Wx (.BoolOp .Or xs pos) (orE sm es) ∧ EW X xr Wx (.BoolOp .Or xs pos) (orE sm es)
  | _, _, .nil, n => absurd rfl n
  | _, _, .cons h1 h2 .nil, _ => by
    simp only [orE]
    exact ⟨pe_one h1, pw_or1 h2⟩
  | _, _, .cons h1 h2 (.cons h3 h4 t), _ => by
    obtain ⟨a, b⟩ := All2.orV (.cons h3 h4 t) (by simp)
    simp only [orE]
    exact ⟨e_or h1 a, w_or h2 b⟩
theorem All2.tests {es : List Ex} {xs : List Expr} (h : All2 sm X xr Wx es xs) (n : es.length ≤ 1) : PTs X xs (tT X.K xr Wx fun ρ => cndE sm es ρ) := by
  cases h with
  | nil =>
    have h := pts_nil (X := X)
    refine ⟨fun pins s σ H Q I q => h.run pins s σ H Q I ?_⟩
    obtain ⟨μ, ρ, S, z, hs, hr, hm, fi⟩ := q
    simp only [cndE] at hm
    cases hm
    exact fi _ _ _ (Stp.refl hs) hs rfl
  | cons h1 h2 t =>
    cases t with
    | cons _ _ _ => simp at n
    | nil =>
      have h := pts_one h2
      refine ⟨fun pins s σ H Q I q => h.run pins s σ H Q I ?_⟩
      obtain ⟨μ, ρ, S, z, hs, hr, hm, fi⟩ := q
      refine ⟨μ, ρ, S, z, hs, hr, ?_, fi⟩
      simp only [cndE, if_re, bnd_re'] at hm
      exact hm
end
section
variable {Γ : Cfg} {X : Cx} {Wx : WX}
theorem src_ok (g : Gd T sm xr k Γ X Wx) {tg iter : Expr} {kk : SK} {ys : List Expr} {src : List Ex} (h : srcArgs Γ tg kk iter = some ys) (a : All2 sm X xr Wx src ys) : PI X tg iter (tI X.K xr Wx kk (evEs sm src)) := by
  cases kk with
  | seq =>
    simp only [srcArgs, Option.some.injEq] at h
    subst h
    cases a with
    | cons h1 h2 t =>
      cases t
      have := i_seq (tg := tg) h1
      simpa only [evEs, one] using this
  | rng1 =>
    simp only [srcArgs] at h
    split at h
    · rw [ite_some_none_eq_some] at h
      obtain ⟨c, rfl⟩ := h
      simp only [Bool.and_eq_true, decide_eq_true_eq] at c
      obtain ⟨⟨rfl, c2⟩, c3⟩ := c
      exact i_rng1 (g.gl c2) (g.blt _ (by decide +kernel)) (a.args (by simp [c3])) c3
    · cases h
  | rng2 =>
    simp only [srcArgs] at h
    split at h
    · rw [ite_some_none_eq_some] at h
      obtain ⟨c, rfl⟩ := h
      simp only [Bool.and_eq_true, decide_eq_true_eq] at c
      obtain ⟨⟨⟨rfl, c2⟩, c3⟩, c4⟩ := c
      exact i_rng2 (g.gl c2) (g.blt _ (by decide +kernel)) (a.args (by simp [c3, c4])) c3 c4
    · cases h
  | enum =>
    simp only [srcArgs] at h
    split at h
    · rw [ite_some_none_eq_some] at h
      obtain ⟨c, rfl⟩ := h
      simp only [Bool.and_eq_true, decide_eq_true_eq] at c
      obtain ⟨⟨rfl, c2⟩, c3⟩ := c
      exact i_enum (g.gl c2) (g.blt _ (by decide +kernel)) (a.args (by simp [c3])) c3
    · cases h
  | zip =>
    simp only [srcArgs] at h
    split at h
    · rw [ite_some_none_eq_some] at h
      obtain ⟨c, rfl⟩ := h
      simp only [Bool.and_eq_true, decide_eq_true_eq] at c
      obtain ⟨⟨⟨rfl, c2⟩, c3⟩, c4⟩ := c
      exact i_zip (g.gl c2) (g.blt _ (by decide +kernel)) (a.args (by simp [c3, c4])) c3 c4
    · cases h
theorem both {x : Expr} {m : Env' → Mo W} (h : EE X xr Wx x m) (p : plT x = true) : EE X xr Wx x m ∧ ET X xr Wx x m := ⟨h, truthT h p⟩
theorem e_glo (g : Gd T sm xr k Γ X Wx) {n : Nat} {pos : Pos} (h1 : glB Γ (T.gname n) = true) (h2 : okN (T.gname n) = true) : EE X xr Wx (.Name (T.gname n) pos) (evE sm (.glo n)) := by
  simp only [evE]
  cases e : sm.glob n with
  | none =>
    refine ⟨fun pins s σ H Q I q => ?_⟩
    obtain ⟨μ, ρ, S, z, hs, hr, hm, fi⟩ := q
    cases hm
  | some d =>
    obtain ⟨u, v, h3, h4, h5⟩ := g.glob n d e
    exact e_con (pe_glob (g.gl h1) h3 h4 (okN_ok h2).1) h5
theorem blkOk_ok {scope : Scope} {own : List (Str × Nat)} (g : Gd T sm xr k Γ X Wx) (h : blkC Γ.N Γ.sc scope own = true) : BlkOk X.N X.env.scope scope own := by
  rw [g.N, g.sc]
  exact blkOk_by h
end
def SN (T : Tb) (sm : Sm) (xr : XRel) (k : Nat) (e : Ex) : Prop := ∀ (Γ : Cfg) (X : Cx) (Wx : WX) (x : Expr), Gd T sm xr k Γ X Wx → chkE T e Γ x = true → EE X xr Wx x (evE sm e) ∧ ET X xr Wx x (evE sm e)
def SL (T : Tb) (sm : Sm) (xr : XRel) (k : Nat) (es : List Ex) : Prop := ∀ (Γ : Cfg) (X : Cx) (Wx : WX) (xs : List Expr), Gd T sm xr k Γ X Wx → chkEs T es Γ xs = true → All2 sm X xr Wx es xs
theorem sl_nil : SL T sm xr k [] := by
  intro Γ X Wx xs g h
  unfold chkEs at h
  cases xs with
  | nil => exact .nil
  | cons => cases h
theorem sl_cons {e : Ex} {es : List Ex} (i_e : SN T sm xr k e) (i_es : SL T sm xr k es) : SL T sm xr k (e :: es) := by
  intro Γ X Wx xs g h
  unfold chkEs at h
  cases xs with
  | nil => cases h
  | cons x xs =>
    simp only [Bool.and_eq_true] at h
    obtain ⟨p, q⟩ := i_e Γ X Wx x g h.1
    exact .cons p q (i_es Γ X Wx xs g h.2)
theorem sn_var {i : Nat} : SN T sm xr k (.var i) := by
  intro Γ X Wx x g h
  unfold chkE at h
  split at h
  · simp only [Bool.and_eq_true, decide_eq_true_eq] at h
    simp only [evE]
    exact both (e_var (g.n h.1.1) (g.vis h.1.2) (okN_ok h.2).1 (okN_ok h.2).2.1) rfl
  · cases h
theorem sn_cI {i : Int} : SN T sm xr k (.cI i) := by
  intro Γ X Wx x g h
  unfold chkE at h
  split at h
  · simp only [decide_eq_true_eq] at h
    subst h
    simp only [evE]
    exact both (e_con pe_int fun μ H _ => .int _) rfl
  · cases h
theorem sn_cB {i : Bool} : SN T sm xr k (.cB i) := by
  intro Γ X Wx x g h
  unfold chkE at h
  split at h
  · simp only [decide_eq_true_eq] at h
    subst h
    simp only [evE]
    exact both (e_con pe_bl fun μ H _ => .bl _) rfl
  · cases h
theorem sn_cN : SN T sm xr k (.cN) := by
  intro Γ X Wx x g h
  unfold chkE at h
  split at h
  · simp only [evE]
    exact both (e_con pe_non fun μ H _ => .non) rfl
  · cases h
theorem sn_cS {i : Str} : SN T sm xr k (.cS i) := by
  intro Γ X Wx x g h
  unfold chkE at h
  split at h
  · simp only [decide_eq_true_eq] at h
    subst h
    simp only [evE]
    exact both (e_con pe_str fun μ H _ => .str _) rfl
  · cases h
theorem sn_glo {n : Nat} : SN T sm xr k (.glo n) := by
  intro Γ X Wx x g h
  unfold chkE at h
  split at h
  · simp only [Bool.and_eq_true, decide_eq_true_eq] at h
    obtain ⟨⟨rfl, h2⟩, h3⟩ := h
    exact both (e_glo g h2 h3) rfl
  · cases h
theorem sn_bin {o : O2} {a : Ex} {b : Ex} (i_a : SN T sm xr k a) (i_b : SN T sm xr k b) : SN T sm xr k (.bin o a b) := by
  intro Γ X Wx x g h
  unfold chkE at h
  split at h
  · simp only [Bool.and_eq_true, decide_eq_true_eq] at h
    obtain ⟨⟨rfl, h2⟩, h3⟩ := h
    simp only [evE]
    exact both (e_bin o (i_a Γ X Wx _ g h2).1 (i_b Γ X Wx _ g h3).1) rfl
  · cases h
theorem sn_neg {a : Ex} (i_a : SN T sm xr k a) : SN T sm xr k (.neg a) := by
  intro Γ X Wx x g h
  unfold chkE at h
  split at h
  · simp only [evE]
    exact both (e_neg (i_a Γ X Wx _ g h).1) rfl
  · cases h
theorem sn_cmp {o : C2} {a : Ex} {b : Ex} (i_a : SN T sm xr k a) (i_b : SN T sm xr k b) : SN T sm xr k (.cmp o a b) := by
  intro Γ X Wx x g h
  unfold chkE at h
  split at h
  · simp only [Bool.and_eq_true, decide_eq_true_eq] at h
    obtain ⟨⟨⟨rfl, h1⟩, h2⟩, h3⟩ := h
    simp only [evE]
    exact ⟨e_cmp o g.un h1 (i_a Γ X Wx _ g h2).1 (i_b Γ X Wx _ g h3).1, t_cmp o g.un h1 (i_a Γ X Wx _ g h2).1 (i_b Γ X Wx _ g h3).1⟩
  · cases h
theorem sn_chn {o : C2} {o' : C2} {a : Ex} {b : Ex} {c : Ex} (i_a : SN T sm xr k a) (i_b : SN T sm xr k b) (i_c : SN T sm xr k c) : SN T sm xr k (.chn o o' a b c) := by
  intro Γ X Wx x g h
  unfold chkE at h
  split at h
  · simp only [Bool.and_eq_true, decide_eq_true_eq] at h
    obtain ⟨⟨⟨⟨⟨rfl, rfl⟩, h1⟩, h2⟩, h3⟩, h4⟩ := h
    simp only [evE]
    exact e_chn o o' g.un h1 (i_a Γ X Wx _ g h2).1 (i_b Γ X Wx _ g h3).1 (i_c Γ X Wx _ g h4).1
  · cases h
theorem sn_and {es : List Ex} (i_es : SL T sm xr k es) : SN T sm xr k (.and es) := by
  intro Γ X Wx x g h
  unfold chkE at h
  split at h
  · simp only [Bool.and_eq_true] at h
    obtain ⟨p, q⟩ := (i_es Γ X Wx _ g h.2).andV (by intro e; rw [e] at h; simp at h)
    simp only [evE]
    exact ⟨p, q.pt⟩
  · cases h
theorem sn_or {es : List Ex} (i_es : SL T sm xr k es) : SN T sm xr k (.or es) := by
  intro Γ X Wx x g h
  unfold chkE at h
  split at h
  · simp only [Bool.and_eq_true] at h
    obtain ⟨p, q⟩ := (i_es Γ X Wx _ g h.2).orV (by intro e; rw [e] at h; simp at h)
    simp only [evE]
    exact ⟨p, q.pt⟩
  · cases h
theorem sn_not {a : Ex} (i_a : SN T sm xr k a) : SN T sm xr k (.not a) := by
  intro Γ X Wx x g h
  unfold chkE at h
  split at h
  · simp only [evE]
    exact ⟨e_not (i_a Γ X Wx _ g h).1, t_not (i_a Γ X Wx _ g h).2⟩
  · cases h
theorem sn_ite {t : Ex} {a : Ex} {b : Ex} (i_t : SN T sm xr k t) (i_a : SN T sm xr k a) (i_b : SN T sm xr k b) : SN T sm xr k (.ite t a b) := by
  intro Γ X Wx x g h
  unfold chkE at h
  split at h
  · simp only [Bool.and_eq_true] at h
    simp only [evE]
    exact ⟨e_ite (i_t Γ X Wx _ g h.1.1).2 (i_a Γ X Wx _ g h.1.2).1 (i_b Γ X Wx _ g h.2).1, t_ite (i_t Γ X Wx _ g h.1.1).2 (i_a Γ X Wx _ g h.1.2).2 (i_b Γ X Wx _ g h.2).2⟩
  · cases h
theorem sn_tup {es : List Ex} (i_es : SL T sm xr k es) : SN T sm xr k (.tup es) := by
  intro Γ X Wx x g h
  unfold chkE at h
  split at h
  · simp only [Bool.and_eq_true] at h
    simp only [evE]
    exact both (e_tup ((i_es Γ X Wx _ g h.2).args h.1)) rfl
  · cases h
theorem sn_lst {es : List Ex} (i_es : SL T sm xr k es) : SN T sm xr k (.lst es) := by
  intro Γ X Wx x g h
  unfold chkE at h
  split at h
  · simp only [Bool.and_eq_true] at h
    simp only [evE]
    exact both (e_lst ((i_es Γ X Wx _ g h.2).args h.1)) rfl
  · cases h
theorem sn_lstL {es : List Ex} (i_es : SL T sm xr k es) : SN T sm xr k (.lstL es) := by
  intro Γ X Wx x g h
  unfold chkE at h
  split at h
  · simp only [Bool.and_eq_true] at h
    simp only [evE]
    exact both (e_lstL ((i_es Γ X Wx _ g h.2).args h.1)) rfl
  · cases h
theorem sn_idx {a : Ex} {i : Ex} (i_a : SN T sm xr k a) (i_i : SN T sm xr k i) : SN T sm xr k (.idx a i) := by
  intro Γ X Wx x g h
  unfold chkE at h
  split at h
  · simp only [Bool.and_eq_true] at h
    simp only [evE]
    exact both (e_idx h.1.1 (i_a Γ X Wx _ g h.1.2).1 (i_i Γ X Wx _ g h.2).1) rfl
  · cases h
theorem sn_slc {a : Ex} {f : Bool} {lo : Ex} {f2 : Bool} {hi : Ex} (i_a : SN T sm xr k a) (i_lo : SN T sm xr k lo) (i_hi : SN T sm xr k hi) : SN T sm xr k (.slc a f lo f2 hi) := by
  intro Γ X Wx x g h
  unfold chkE at h
  split at h
  · rename_i l lo' hi' p1 p2
    simp only [Bool.and_eq_true] at h
    obtain ⟨⟨h1, h2⟩, h3⟩ := h
    simp only [evE]
    have e1 : ∃ b, lo' = poOf f b ∧ (f = true → EE X xr Wx b (evE sm lo)) := by
      split at h2
      · exact ⟨_, rfl, fun _ => (i_lo Γ X Wx _ g h2).1⟩
      · exact ⟨.Constant .none 0 p1, rfl, fun z => by cases z⟩
      · cases h2
    have e2 : ∃ b, hi' = poOf f2 b ∧ (f2 = true → EE X xr Wx b (evE sm hi)) := by
      split at h3
      · exact ⟨_, rfl, fun _ => (i_hi Γ X Wx _ g h3).1⟩
      · exact ⟨.Constant .none 0 p1, rfl, fun z => by cases z⟩
      · cases h3
    obtain ⟨b1, rfl, q1⟩ := e1
    obtain ⟨b2, rfl, q2⟩ := e2
    exact both (e_slc f f2 (i_a Γ X Wx _ g h1).1 q1 q2) rfl
  · cases h
theorem sn_isi {Ty : String} {a : Ex} (i_a : SN T sm xr k a) : SN T sm xr k (.isi Ty a) := by
  intro Γ X Wx x g h
  unfold chkE at h
  split at h
  · simp only [Bool.and_eq_true, decide_eq_true_eq] at h
    obtain ⟨⟨⟨⟨⟨⟨⟨rfl, rfl⟩, h1⟩, h2⟩, h3⟩, h4⟩, h5⟩, h6⟩ := h
    simp only [evE]
    exact both (e_isi h1 g.blt (g.gl h2) (g.gl h3) h5 h4 (i_a Γ X Wx _ g h6).1) rfl
  · cases h
theorem sn_blt {b : B1} {es : List Ex} (i_es : SL T sm xr k es) : SN T sm xr k (.blt b es) := by
  intro Γ X Wx x g h
  unfold chkE at h
  split at h
  · simp only [Bool.and_eq_true, Bool.or_eq_true, decide_eq_true_eq] at h
    obtain ⟨⟨⟨⟨⟨rfl, h1⟩, h2⟩, h3⟩, h4⟩, h5⟩ := h
    simp only [evE]
    refine both (e_blt b g.calm h3 h4 ?_ (g.gl h1) ((i_es Γ X Wx _ g h5).args (by simp [h3, h4]))) rfl
    rcases h2 with q | q
    · exact .inl ⟨by simpa using q, g.blt⟩
    · by_cases e : isMath b = true
      · exact .inr ⟨e, g.math b q e⟩
      · exact .inl ⟨by simpa using e, g.blt⟩
  · cases h
theorem sn_rpr {a : Ex} (i_a : SN T sm xr k a) : SN T sm xr k (.rpr a) := by
  intro Γ X Wx x g h
  unfold chkE at h
  split at h
  · simp only [Bool.and_eq_true, decide_eq_true_eq] at h
    obtain ⟨⟨⟨rfl, h1⟩, h2⟩, h3⟩ := h
    simp only [evE]
    exact both (e_rpr g.grd g.un g.blt (g.gl h1) h2 (i_a Γ X Wx _ g h3).1) rfl
  · cases h
theorem sn_call {f : Nat} {es : List Ex} (i_es : SL T sm xr k es) : SN T sm xr k (.call f es) := by
  intro Γ X Wx x g h
  unfold chkE at h
  split at h
  · simp only [Bool.and_eq_true, decide_eq_true_eq] at h
    obtain ⟨⟨⟨⟨⟨⟨h1, rfl⟩, h2⟩, h3⟩, h4⟩, h5⟩, h6⟩ := h
    simp only [evE]
    exact both (e_call g h1 h2 h3 h4 h5 ((i_es Γ X Wx _ g h6).args (by simp [h4, h5]))) rfl
  · cases h
theorem sn_callK {f : Nat} {m : Nat} {perm : List Nat} {es : List Ex} (i_es : SL T sm xr k es) : SN T sm xr k (.callK f m perm es) := by
  intro Γ X Wx x g h
  unfold chkE at h
  split at h
  · rename_i n p1 ys kws p2
    simp only [Bool.and_eq_true, decide_eq_true_eq] at h
    obtain ⟨⟨⟨⟨⟨⟨⟨⟨⟨h1, rfl⟩, h2⟩, h3⟩, h4⟩, h5⟩, h6⟩, h7⟩, h8⟩, h9⟩ := h
    have a := i_es Γ X Wx _ g h9
    obtain ⟨es1, es2, rfl, a1, a2⟩ := a.split
    simp only [evE, evEs_app, bnd_assocF]
    have l2 : ∀ ρ S ws S', evEs sm es2 ρ S = some (.ok ws S') → ws.length = (kwn kws).length := fun ρ S ws S' e => by rw [evEs_len _ _ _ _ _ e, a2.len, h8]
    subst h7
    cases ys with
    | nil =>
      cases a1
      simp only [evEs]
      exact both (e_callK0 g h1 h2 h3 h5 h6 a2.kws l2) rfl
    | cons y ys =>
      have l1 : ∀ ρ S ws S', evEs sm es1 ρ S = some (.ok ws S') → ws.length = (y :: ys).length := fun ρ S ws S' e => by rw [evEs_len _ _ _ _ _ e, a1.len]
      have h4' := h4
      rw [List.all_cons, Bool.and_eq_true] at h4
      exact both (e_callK g h1 h2 h3 h5 h6 h4.1 h4.2 (a1.args h4') a2.kws l1 l2) rfl
  · cases h
theorem sn_cmpr {kk : SK} {src : List Ex} {p : Pat} {cs : List Ex} {e : Ex} {own : List Nat} (i_src : SL T sm xr k src) (i_cs : SL T sm xr k cs) (i_e : SN T sm xr k e) : SN T sm xr k (.cmpr kk src p cs e own) := by
  intro Γ X Wx x g h
  unfold chkE at h
  split at h
  · rename_i elt tg iter ifs scope p1
    simp only [Bool.and_eq_true, decide_eq_true_eq, List.all_eq_true] at h
    obtain ⟨⟨⟨⟨⟨⟨⟨⟨h1, h2⟩, h3⟩, h4⟩, h5⟩, h6⟩, h7⟩, h8⟩, h9⟩ := h
    have hi : PI X tg iter (tI X.K xr Wx kk (evEs sm src)) := by
      split at h6
      · exact src_ok g (by assumption) (i_src Γ X Wx _ g h6)
      · cases h6
    have := e_cmpr (q := p) g hi (blkOk_ok g h2) h3 h4 h1 (fun s H C cl fp => sndP (g.blk scope s H C cl fp) p tg h7) (fun s H C cl fp => (i_cs _ _ _ _ (g.blk scope s H C cl fp) h8).tests h5) (fun s H C cl fp => (i_e _ _ _ _ (g.blk scope s H C cl fp) h9).1) (pos := p1)
    simp only [evE]
    exact both this rfl
  · cases h
end DL

namespace DL
open PySem PySem.Spec PyProof.Rows L2
variable {T : Tb} {sm : Sm} {xr : XRel} {k : Nat}
mutual
theorem snd : ∀ (e : Ex), SN T sm xr k e
  | .var _ => sn_var
  | .cI _ => sn_cI
  | .cB _ => sn_cB
  | .cN => sn_cN
  | .cS _ => sn_cS
  | .glo _ => sn_glo
  | .bin _ a b => sn_bin (snd a) (snd b)
  | .neg a => sn_neg (snd a)
  | .cmp _ a b => sn_cmp (snd a) (snd b)
  | .chn _ _ a b c => sn_chn (snd a) (snd b) (snd c)
  | .and es => sn_and (sndL es)
  | .or es => sn_or (sndL es)
  | .not a => sn_not (snd a)
  | .ite t a b => sn_ite (snd t) (snd a) (snd b)
  | .tup es => sn_tup (sndL es)
  | .lst es => sn_lst (sndL es)
  | .lstL es => sn_lstL (sndL es)
  | .idx a i => sn_idx (snd a) (snd i)
  | .slc a _ lo _ hi => sn_slc (snd a) (snd lo) (snd hi)
  | .isi _ a => sn_isi (snd a)
  | .blt _ es => sn_blt (sndL es)
  | .rpr a => sn_rpr (snd a)
  | .call _ es => sn_call (sndL es)
  | .callK _ _ _ es => sn_callK (sndL es)
  | .cmpr _ src _ cs e _ => sn_cmpr (sndL src) (sndL cs) (snd e)
theorem sndL : ∀ (es : List Ex), SL T sm xr k es
  | [] => sl_nil
  | e :: es => sl_cons (snd e) (sndL es)
end
end DL

namespace DL
open PySem PySem.Spec PyProof.Rows L2

inductive Sx where
  | set (i : Nat) (e : Ex)
  | setC (i : Nat) (e : Ex)
  | asgn (p : Pat) (e : Ex)
  | par (is : List Nat) (es : List Ex)
  | exp (e : Ex)
  | doc
  | app (i : Nat) (e : Ex)
  | iff (t : Ex) (a b : List Sx)
  | iffT (t : Ex) (a b : List Sx)
  | whl (t : Ex) (b : List Sx)
  | fors (p : Pat) (k : SK) (src : List Ex) (b : List Sx)
  | ret (e : Ex)
  | retL (e : Ex)
  | pass
  | brk
  | cnt
  | never
inductive Fl where
  | nx (ρ : Env')
  | rt (w : W)
  | rl (j : Nat)
  | bk (ρ : Env')
  | ct (ρ : Env')
def setAll (ρ : Env') : List Nat → List W → Option Env'
  | [], [] => some ρ
  | i :: is, w :: ws => setAll (ρ.set i (some w)) is ws
  | _, _ => none
def FU : Nat := 2 ^ 40
def whE (c : Env' → Mo Bool) (b : Env' → Mo Fl) : Nat → Env' → Mo Fl
  | 0, _ => no
  | n + 1, ρ => bnd (c ρ) fun k => if k = true then bnd (b ρ) (fun f => match f with
    | .nx ρ' => whE c b n ρ'
    | .ct ρ' => whE c b n ρ'
    | .bk ρ' => re (.nx ρ')
    | .rt w => re (.rt w)
    | .rl w => re (.rl w)) else re (.nx ρ)
noncomputable def forE (a : PyData → Env' → Mo Env') (b : Env' → Mo Fl) (S0 : Sto) (g : List Nat) : List PyData → Env' → Mo Fl
  | [], ρ => staying S0 g (re (.nx ρ))
  | x :: xs, ρ => staying S0 g (bnd (a x ρ) fun ρ' => bnd (b ρ') (fun f => match f with
    | .nx ρ'' => forE a b S0 g xs ρ''
    | .ct ρ'' => forE a b S0 g xs ρ''
    | .bk ρ'' => re (.nx ρ'')
    | .rt w => re (.rt w)
    | .rl w => re (.rl w)))
mutual
noncomputable def exS (Γ : Sm) : Sx → Env' → Mo Fl
  | .set i e, ρ => bnd (evE Γ e ρ) fun w => re (.nx (ρ.set i (some w)))
  | .setC i e, ρ => bnd (evE Γ e ρ) fun w => re (.nx (ρ.set i (some w)))
  | .asgn p e, ρ => bnd (evE Γ e ρ) fun w => bnd (onD w) fun d => bnd (asg p d ρ) fun ρ' => re (.nx ρ')
  | .par is es, ρ => bnd (evEs Γ es ρ) fun ws => bnd (lift (setAll ρ is ws)) fun ρ' => re (.nx ρ')
  | .exp e, ρ => bnd (evE Γ e ρ) fun _ => re (.nx ρ)
  | .doc, ρ => re (.nx ρ)
  | .app i e, ρ => bnd (lift (match ρ[i]? with
      | some (some (.l j)) => some j
      | _ => none)) fun j => bnd (evE Γ e ρ) fun w => bnd (onD w) fun d => fun S => match S[j]? with
    | some xs => if xs.length < LIM then some (.ok (.nx ρ) (S.set j (xs ++ [d]))) else none
    | none => none
  | .iff t a b, ρ => bnd (evE Γ t ρ) fun x => bnd (truthB x) fun k => if k = true then exSs Γ a ρ else exSs Γ b ρ
  | .iffT t a b, ρ => fun S => (bnd (bnd (evE Γ t ρ) truthB) fun k => fun S' => (if k = true then exSs Γ a ρ else exSs Γ b ρ) (S'.take S.length)) S
  | .whl t b, ρ => whE (fun ρ => bnd (evE Γ t ρ) truthB) (fun ρ => exSs Γ b ρ) FU ρ
  | .fors p k src b, ρ => bnd (evEs Γ src ρ) fun ws => fun S => match itemsOf k ws S with
    | some (xs, g) => if xs.length ≤ LIM then forE (asg p) (fun ρ => exSs Γ b ρ) S g xs ρ S else none
    | none => none
  | .ret e, ρ => bnd (evE Γ e ρ) fun w => re (.rt w)
  | .retL e, ρ => bnd (evE Γ e ρ) fun w => match w with
    | .l j => re (.rl j)
    | _ => no
  | .pass, ρ => re (.nx ρ)
  | .brk, ρ => re (.bk ρ)
  | .cnt, ρ => re (.ct ρ)
  | .never, _ => no
noncomputable def exSs (Γ : Sm) : List Sx → Env' → Mo Fl
  | [], ρ => re (.nx ρ)
  | s :: ss, ρ => bnd (exS Γ s ρ) fun f => match f with
    | .nx ρ' => exSs Γ ss ρ'
    | .bk ρ' => re (.bk ρ')
    | .ct ρ' => re (.ct ρ')
    | .rt w => re (.rt w)
    | .rl w => re (.rl w)
end

section
variable {K : PySem.W.Frag} {μ μ' : Mu} {H H' : Hp} {S S' : Sto}
theorem trunc (hs : RS K μ S H) (st : Stp μ H μ' H') (rs : RS K μ' S' H') : Stp μ H μ H' ∧ RS K μ (S'.take S.length) H' ∧ Gen K μ' H' μ H' := by
  obtain ⟨t, et⟩ := st.pre
  have g : Gen K μ' H' μ H' := gen_less fun a h => by
    rcases h with q | q
    · exact .inl (by rw [et]; exact List.mem_append_left _ q)
    · exact .inr (st.hsub a q)
  have hl : S.length ≤ S'.length := by
    have := rs.len
    rw [et, List.length_append, hs.len] at this
    omega
  refine ⟨⟨⟨[], by simp⟩, st.keep, fun _ h => .inl h, st.old, fun _ h => .inl h, fun _ h => h⟩, ⟨?_, hs.nd, fun j a xs e1 e2 => ?_, fun a ha => ?_⟩, g⟩
  · rw [List.length_take, hs.len]; omega
  · have hj : j < S.length := by rw [← hs.len]; exact (List.getElem?_eq_some_iff.mp e1).1
    rw [List.getElem?_take_of_lt hj] at e2
    obtain ⟨vs, a1, a2⟩ := rs.at_ j a xs (by rw [et, List.getElem?_append_left (List.getElem?_eq_some_iff.mp e1).1]; exact e1) e2
    exact ⟨vs, a1, RDs.gen g _ _ a2⟩
  · obtain ⟨h1, h2⟩ := rs.hid a (st.hsub a ha)
    exact ⟨fun z => h1 (by rw [et]; exact List.mem_append_left _ z), h2⟩
end
/-! ### readings -/
def FiF (K : PySem.W.Frag) (μ : Mu) (H : Hp) (S' : Sto) (D : Ends) : Fl → Prop
  | .nx ρ' => ∀ μ' H' σ', Stp μ H μ' H' → RS K μ' S' H' → RE K μ' H' ρ' σ' → D.nx σ' H'
  | .bk ρ' => ∀ μ' H' σ', Stp μ H μ' H' → RS K μ' S' H' → RE K μ' H' ρ' σ' → D.bk σ' H'
  | .ct ρ' => ∀ μ' H' σ', Stp μ H μ' H' → RS K μ' S' H' → RE K μ' H' ρ' σ' → D.ct σ' H'
  | .rt w => ∀ μ' H' v, Stp μ H μ' H' → RS K μ' S' H' → RW K μ' H' w v → D.rt v H'
  | .rl j => ∀ μ' H' v, Stp μ H μ' H' → RS K μ' S' H' → RW K μ' H' (.l j) v → D.rt v H'
def FiS (K : PySem.W.Frag) (xr : XRel) (Wx : WX) (μ : Mu) (H : Hp) (D : Ends) : Out Fl → Prop
  | .ok f S' => FiF K μ H S' D f
  | .exc k a S' => ∀ μ' H' c d σ', Stp μ H μ' H' → RS K μ' S' H' → xr k a μ' H' c d → Wx c d σ' H'
def tS (K : PySem.W.Frag) (xr : XRel) (Wx : WX) (m : Env' → Mo Fl) : TS := fun D σ H => ∃ μ ρ S r, RS K μ S H ∧ RE K μ H ρ σ ∧ m ρ S = some r ∧ FiS K xr Wx μ H D r
section
variable {K : PySem.W.Frag} {xr : XRel} {Wx : WX} {μ μ' : Mu} {H H' : Hp} {S S' : Sto} {D : Ends}
theorem FiF.stp {f : Fl} (s : Stp μ H μ' H') (h : FiF K μ H S' D f) : FiF K μ' H' S' D f := by
  cases f <;> exact fun a b c s2 => h a b c (s.trans s2)
theorem FiS.stp {r : Out Fl} (s : Stp μ H μ' H') (h : FiS K xr Wx μ H D r) : FiS K xr Wx μ' H' D r := by
  cases r with
  | ok f S' => exact FiF.stp s h
  | exc k a S' => exact fun a b c d e s2 => h a b c d e (s.trans s2)
/-- an expression, then what comes of it -/
theorem sqS {α β : Type} {R : Mu → Hp → α → β → Prop} {σ : L2.St} {ρ : Env'} {m : Env' → Mo α} {f : α → Mo Fl} {r : Out Fl} (hs : RS K μ S H) (he : RE K μ H ρ σ) (h : bnd (m ρ) f S = some r) (fi : FiS K xr Wx μ H D r) {Z : β → Hp → Prop}
    (k : ∀ μ1 S1 H1 x y, Stp μ H μ1 H1 → RS K μ1 S1 H1 → RE K μ1 H1 ρ σ → R μ1 H1 x y → f x S1 = some r → FiS K xr Wx μ1 H1 D r → Z y H1) : tG K xr Wx R m σ H Z := by
  rcases bnd_inv h with ⟨kk, a, S1, e, rfl⟩ | ⟨x, S1, e, h1⟩
  · exact ⟨μ, ρ, S, _, hs, he, e, fun μ' H' c d st rs xx => fi μ' H' c d σ st rs xx⟩
  · exact ⟨μ, ρ, S, _, hs, he, e, fun μ' H' y st rs rr => k μ' S1 H' x y st rs (he.stp st) rr h1 (fi.stp st)⟩
end
section
variable {X : Cx} {xr : XRel} {Wx : WX} {pos p p2 : Pos} {a b c e tg : Expr} {es : List Expr} {sts : List Stmt} {st : Stmt} {ma mb mc m : Env' → Mo W} {ms : Env' → Mo (List W)} {mf mg : Env' → Mo Fl} {i j : Nat} {x y : Str} {T : Tb} {sm : Sm} {k : Nat} {Γ : Cfg}
abbrev ES (X : Cx) (xr : XRel) (Wx : WX) (st : Stmt) (m : Env' → Mo Fl) : Prop := PS X st (tS X.K xr Wx m)
abbrev ESs (X : Cx) (xr : XRel) (Wx : WX) (st : List Stmt) (m : Env' → Mo Fl) : Prop := PSs X st (tS X.K xr Wx m)
theorem tasg_nm (D : Ends) (σ : L2.St) (H : Hp) (h : tS X.K xr Wx (fun ρ => bnd (m ρ) fun w => re (.nx (ρ.set i (some w)))) D σ H) : tAsg (tE X.K xr Wx m) (gName i) D σ H := by
  obtain ⟨μ, ρ, S, z, hs, hr, hm, fi⟩ := h
  show tE X.K xr Wx m σ H _
  refine sqS hs hr hm fi fun μ1 S1 H1 x v st1 rs1 re1 rw1 h1 fi1 => ?_
  cases h1
  exact fi1 μ1 H1 _ (Stp.refl rs1) rs1 (re1.set rw1)
theorem s_set (g : Gd T sm xr k Γ X Wx) (hi : Γ.N[i]? = some x) (hst : stB Γ x = true) (hsw : swapsWith e (some (.Name x p)) pos.line X.env = pure false) (he : EE X xr Wx e m) : ES X xr Wx (.Assign [.Name x p] e pos) fun ρ => bnd (m ρ) fun w => re (.nx (ρ.set i (some w))) :=
  PSw (ps_set g.xnd (g.n hi) (g.st hst).1 he hsw (g.st hst).2) fun D σ H h => tasg_nm D σ H h
theorem s_asgn {q : Pat} (he : EE X xr Wx e m) (hg : EG X tg q) (hs : swapsWithSole [tg] e pos.line X.env = pure false) (hw : swappedStores [tg] e X.env = pure none) (hn : nst tg = true) :
    ES X xr Wx (.Assign [tg] e pos) fun ρ => bnd (m ρ) fun w => bnd (onD w) fun d => bnd (asg q d ρ) fun ρ' => re (.nx ρ') :=
  PSw (ps_asg he hg hs hw (by rw [asgn_cons hn]; rfl)) fun D σ H h => by
  obtain ⟨μ, ρ, S, z, hs, hr, hm, fi⟩ := h
  show tE X.K xr Wx m σ H _
  refine sqS hs hr hm fi fun μ1 S1 H1 x v st1 rs1 re1 rw1 h1 fi1 => ?_
  obtain ⟨d, rd, h2⟩ := onD_ok rw1 h1
  rcases bnd_inv h2 with ⟨kk, a, S2, e2, _⟩ | ⟨ρ', S2, e2, h3⟩
  · exact absurd e2 (asg_ne _ _ _ _ _ _ _)
  · cases h3
    exact ⟨μ1, ρ, S1, d, ρ', S2, rs1, re1, rd, e2, fun μ2 H2 σ2 st2 rs2 re2 _ => fi1 μ2 H2 σ2 st2 rs2 re2⟩
theorem s_par2 {b2 : Expr} {kt k2 : Nat} {px py pt pt2 : Pos} (g : Gd T sm xr k Γ X Wx) (hi : Γ.N[i]? = some x) (hj : Γ.N[j]? = some y) (hij : i ≠ j) (hx : Γ.sc.names.lookup x = some .local) (hy : Γ.sc.names.lookup y = some .local) (ha : EA X xr Wx [a, b2] ms)
    (hw : swappedStores [.Tuple [.Name x px, .Name y py] kt pt] (.Tuple [a, b2] k2 pt2) X.env = pure (some [x, y])) :
    ES X xr Wx (.Assign [.Tuple [.Name x px, .Name y py] kt pt] (.Tuple [a, b2] k2 pt2) pos) fun ρ => bnd (ms ρ) fun ws => bnd (lift (setAll ρ [i, j] ws)) fun ρ' => re (.nx ρ') :=
  PSw (ps_par g.calm g.xnd (g.n hi) (g.n hj) hij (by rw [g.sc]; exact hx) (by rw [g.sc]; exact hy) ha hw) fun D σ H h => by
  obtain ⟨μ, ρ, S, z, hs, hr, hm, fi⟩ := h
  show tA X.K xr Wx ms σ H _
  refine sqS (R := rA X.K) hs hr hm fi fun μ1 S1 H1 ws vs st1 rs1 re1 rw1 h1 fi1 => ?_
  obtain ⟨ρ', e, h2⟩ := lift_ok h1
  cases rw1 with
  | nil => cases e
  | cons r1 t =>
    cases t with
    | nil => cases e
    | cons r2 t =>
      cases t with
      | cons _ _ => cases e
      | nil =>
        cases e
        cases h2
        exact ⟨_, _, rfl, fi1 μ1 H1 _ (Stp.refl rs1) rs1 ((re1.set r1).set r2)⟩
theorem s_par3 {l : Nat} {z : Str} {b2 b3 : Expr} {kt k2 : Nat} {px py pz pt pt2 : Pos} (g : Gd T sm xr k Γ X Wx) (hi : Γ.N[i]? = some x) (hj : Γ.N[j]? = some y) (hl : Γ.N[l]? = some z) (hij : i ≠ j) (hil : i ≠ l) (hjl : j ≠ l)
    (hx : Γ.sc.names.lookup x = some .local) (hy : Γ.sc.names.lookup y = some .local) (hz : Γ.sc.names.lookup z = some .local) (ha : EA X xr Wx [a, b2, b3] ms)
    (hw : swappedStores [.Tuple [.Name x px, .Name y py, .Name z pz] kt pt] (.Tuple [a, b2, b3] k2 pt2) X.env = pure (some [x, y, z])) :
    ES X xr Wx (.Assign [.Tuple [.Name x px, .Name y py, .Name z pz] kt pt] (.Tuple [a, b2, b3] k2 pt2) pos) fun ρ => bnd (ms ρ) fun ws => bnd (lift (setAll ρ [i, j, l] ws)) fun ρ' => re (.nx ρ') :=
  PSw (ps_par3 g.calm g.xnd (g.n hi) (g.n hj) (g.n hl) hij hil hjl (by rw [g.sc]; exact hx) (by rw [g.sc]; exact hy) (by rw [g.sc]; exact hz) ha hw) fun D σ H h => by
  obtain ⟨μ, ρ, S, z, hs, hr, hm, fi⟩ := h
  show tA X.K xr Wx ms σ H _
  refine sqS (R := rA X.K) hs hr hm fi fun μ1 S1 H1 ws vs st1 rs1 re1 rw1 h1 fi1 => ?_
  obtain ⟨ρ', e, h2⟩ := lift_ok h1
  cases rw1 with
  | nil => cases e
  | cons r1 t =>
    cases t with
    | nil => cases e
    | cons r2 t =>
      cases t with
      | nil => cases e
      | cons r3 t =>
        cases t with
        | cons _ _ => cases e
        | nil =>
          cases e
          cases h2
          exact ⟨_, _, _, rfl, fi1 μ1 H1 _ (Stp.refl rs1) rs1 (((re1.set r1).set r2).set r3)⟩
theorem s_exp (he : EE X xr Wx e m) (hn : ncmp e = true) : ES X xr Wx (.Expr e pos) fun ρ => bnd (m ρ) fun _ => re (.nx ρ) :=
  PSw (ps_expr he (ncmp_eq hn)) fun D σ H h => by
  obtain ⟨μ, ρ, S, z, hs, hr, hm, fi⟩ := h
  show tE X.K xr Wx m σ H _
  refine sqS hs hr hm fi fun μ1 S1 H1 x v st1 rs1 re1 rw1 h1 fi1 => ?_
  cases h1
  exact fi1 μ1 H1 _ (Stp.refl rs1) rs1 re1
theorem next_ok (D : Ends) (σ : L2.St) (H : Hp) (h : tS X.K xr Wx (fun ρ => re (.nx ρ)) D σ H) : D.nx σ H := by
  obtain ⟨μ, ρ, S, z, hs, hr, hm, fi⟩ := h
  cases hm
  exact fi μ H _ (Stp.refl hs) hs hr
theorem s_doc {jj : Nat} : ES X xr Wx (.Expr (.Constant (.str x) jj p) pos) fun ρ => re (.nx ρ) := PSw ps_doc fun D σ H h => next_ok D σ H h
theorem s_pass : ES X xr Wx (.Pass pos) fun ρ => re (.nx ρ) := PSw ps_pass fun D σ H h => next_ok D σ H h
theorem s_brk : ES X xr Wx (.Break pos) fun ρ => re (.bk ρ) := PSw ps_break fun D σ H h => by
  obtain ⟨μ, ρ, S, z, hs, hr, hm, fi⟩ := h
  cases hm
  exact fi μ H _ (Stp.refl hs) hs hr
theorem s_cnt : ES X xr Wx (.Continue pos) fun ρ => re (.ct ρ) := PSw ps_continue fun D σ H h => by
  obtain ⟨μ, ρ, S, z, hs, hr, hm, fi⟩ := h
  cases hm
  exact fi μ H _ (Stp.refl hs) hs hr
theorem s_never : ES X xr Wx st fun _ => no := PSw ps_never fun D σ H h => by
  obtain ⟨μ, ρ, S, z, hs, hr, hm, fi⟩ := h
  cases hm
theorem s_ret (he : EE X xr Wx e m) : ES X xr Wx (.Return (some e) pos) fun ρ => bnd (m ρ) fun w => re (.rt w) := PSw (ps_ret he) fun D σ H h => by
  obtain ⟨μ, ρ, S, z, hs, hr, hm, fi⟩ := h
  show tE X.K xr Wx m σ H _
  refine sqS hs hr hm fi fun μ1 S1 H1 x v st1 rs1 re1 rw1 h1 fi1 => ?_
  cases h1
  exact fi1 μ1 H1 _ (Stp.refl rs1) rs1 rw1
theorem s_retL (he : EE X xr Wx e m) : ES X xr Wx (.Return (some e) pos) fun ρ => bnd (m ρ) fun w => match w with
    | .l j => re (.rl j)
    | _ => no := PSw (ps_ret he) fun D σ H h => by
  obtain ⟨μ, ρ, S, z, hs, hr, hm, fi⟩ := h
  show tE X.K xr Wx m σ H _
  refine sqS hs hr hm fi fun μ1 S1 H1 x v st1 rs1 re1 rw1 h1 fi1 => ?_
  cases x with
  | d x => cases h1
  | l j =>
    cases h1
    exact fi1 μ1 H1 _ (Stp.refl rs1) rs1 rw1
theorem s_iff {sa sb : List Stmt} (ht : ET X xr Wx c mc) (ha : ESs X xr Wx sa mf) (hb : ESs X xr Wx sb mg) : ES X xr Wx (.If c sa sb pos) fun ρ => bnd (mc ρ) fun x => bnd (truthB x) fun k => if k = true then mf ρ else mg ρ :=
  PSw (ps_if ht ha hb) fun D σ H h => by
  obtain ⟨μ, ρ, S, z, hs, hr, hm, fi⟩ := h
  have hm : bnd (bnd (mc ρ) truthB) (fun k => if k = true then mf ρ else mg ρ) S = some z := by rw [bnd_assocF]; exact hm
  show tT X.K xr Wx _ σ H _
  refine sqS (m := fun ρ => bnd (mc ρ) truthB) hs hr hm fi fun μ1 S1 H1 x v st1 rs1 re1 rw1 h1 fi1 => ?_
  have e : x = v := rw1
  subst e
  cases x with
  | true => exact ⟨μ1, ρ, S1, z, rs1, re1, h1, fi1⟩
  | false => exact ⟨μ1, ρ, S1, z, rs1, re1, h1, fi1⟩
theorem s_iffT {sa sb : List Stmt} (ht : ET X xr Wx c mc) (ha : ESs X xr Wx sa mf) (hb : ESs X xr Wx sb mg) : ES X xr Wx (.If c sa sb pos) fun ρ => fun S => (bnd (bnd (mc ρ) truthB) fun k => fun S' => (if k = true then mf ρ else mg ρ) (S'.take S.length)) S :=
  PSw (ps_if ht ha hb) fun D σ H h => by
  obtain ⟨μ, ρ, S, z, hs, hr, hm, fi⟩ := h
  show tT X.K xr Wx _ σ H _
  rcases bnd_inv hm with ⟨kk, a, S1, e, rfl⟩ | ⟨k, S1, e, h1⟩
  · exact ⟨μ, ρ, S, _, hs, hr, e, fun μ' H' c d st rs xx => fi μ' H' c d σ st rs xx⟩
  · refine ⟨μ, ρ, S, _, hs, hr, e, fun μ1 H1 b st rs rr => ?_⟩
    have eb : k = b := rr
    subst eb
    obtain ⟨s1, s2, _⟩ := trunc hs st rs
    cases k with
    | true => exact ⟨μ, ρ, _, z, s2, hr.stp s1, h1, fi.stp s1⟩
    | false => exact ⟨μ, ρ, _, z, s2, hr.stp s1, h1, fi.stp s1⟩
theorem ss_nil : ESs X xr Wx [] fun ρ => re (.nx ρ) := PSsw pss_nil fun D σ H h => next_ok D σ H h
theorem ss_cons (h1 : ES X xr Wx st mf) (h2 : ESs X xr Wx sts mg) : ESs X xr Wx (st :: sts) fun ρ => bnd (mf ρ) fun f => match f with
    | .nx ρ' => mg ρ'
    | .bk ρ' => re (.bk ρ')
    | .ct ρ' => re (.ct ρ')
    | .rt w => re (.rt w)
    | .rl w => re (.rl w) := PSsw (pss_cons h1 h2) fun D σ H h => by
  obtain ⟨μ, ρ, S, z, hs, hr, hm, fi⟩ := h
  rcases bnd_inv hm with ⟨kk, a, S1, e, rfl⟩ | ⟨f, S1, e, h1⟩
  · exact ⟨μ, ρ, S, _, hs, hr, e, fi⟩
  · refine ⟨μ, ρ, S, _, hs, hr, e, ?_⟩
    cases f with
    | nx ρ' => exact fun μ' H' σ' st rs re => ⟨μ', ρ', S1, z, rs, re, h1, fi.stp st⟩
    | bk ρ' => cases h1; exact fi
    | ct ρ' => cases h1; exact fi
    | rt w => cases h1; exact fi
    | rl w => cases h1; exact fi
end
end DL

namespace DL
open PySem PySem.Spec PyProof.Rows L2
section
variable {X : Cx} {xr : XRel} {Wx : WX} {pos p p2 : Pos} {a b c e tg : Expr} {es : List Expr} {sts : List Stmt} {st : Stmt} {ma mb mc m : Env' → Mo W} {ms : Env' → Mo (List W)} {mf mg : Env' → Mo Fl} {i j : Nat} {x y : Str} {T : Tb} {sm : Sm} {k : Nat} {Γ : Cfg}
theorem s_whl (g : Gd T sm xr k Γ X Wx) (ht : ET X xr Wx c mc) (hb : ESs X xr Wx sts mf) : ES X xr Wx (.While c sts [] pos) fun ρ => whE (fun ρ => bnd (mc ρ) truthB) mf FU ρ :=
  PSw (ps_while g.po ht hb) fun D σ H h => by
  obtain ⟨μ, ρ, S, z, hs, hr, hm, fi⟩ := h
  refine ⟨fun n σ' H' => ∃ μ' ρ' S', Stp μ H μ' H' ∧ RS X.K μ' S' H' ∧ RE X.K μ' H' ρ' σ' ∧ whE (fun ρ => bnd (mc ρ) truthB) mf n ρ' S' = some z, ⟨FU, μ, ρ, S, Stp.refl hs, hs, hr, hm⟩, ?_⟩
  rintro n σ1 H1 ⟨μ1, ρ1, S1, st1, rs1, re1, h1⟩
  cases n with
  | zero => cases h1
  | succ n =>
    have fi1 := fi.stp st1
    show tT X.K xr Wx _ σ1 H1 _
    refine sqS (m := fun ρ => bnd (mc ρ) truthB) rs1 re1 h1 fi1 fun μ2 S2 H2 b b' st2 rs2 re2 rw2 h2 fi2 => ?_
    have e : b = b' := rw2
    subst e
    cases b with
    | false =>
      rw [if_neg (by decide)] at h2 ⊢
      cases h2
      exact fi2 μ2 H2 _ (Stp.refl rs2) rs2 re2
    | true =>
      rw [if_pos rfl] at h2 ⊢
      refine ⟨_, fun σ' H' w => ⟨n, Nat.lt_succ_self n, w⟩, ?_⟩
      rcases bnd_inv h2 with ⟨kk, a, S3, e3, rfl⟩ | ⟨f, S3, e3, h3⟩
      · exact ⟨μ2, ρ1, S2, _, rs2, re2, e3, fi2⟩
      · refine ⟨μ2, ρ1, S2, _, rs2, re2, e3, ?_⟩
        cases f with
        | nx ρ' => exact fun μ' H' σ' st rs re => ⟨μ', ρ', S3, (st1.trans st2).trans st, rs, re, h3⟩
        | ct ρ' => exact fun μ' H' σ' st rs re => ⟨μ', ρ', S3, (st1.trans st2).trans st, rs, re, h3⟩
        | bk ρ' => cases h3; exact fi2
        | rt w => cases h3; exact fi2
        | rl w => cases h3; exact fi2
theorem s_for {q : Pat} {kk : SK} {iter : Expr} (g : Gd T sm xr k Γ X Wx) (hi : PI X tg iter (tI X.K xr Wx kk ms)) (hg : EG X tg q) (hb : ESs X xr Wx sts mf) (hn : nset iter = true) :
    ES X xr Wx (.For tg iter sts [] pos) fun ρ => bnd (ms ρ) fun ws => fun S => match itemsOf kk ws S with
    | some (xs, gg) => if xs.length ≤ LIM then forE (asg q) mf S gg xs ρ S else none
    | none => none :=
  PSw (ps_for g.po g.calm hi hg hb (nset_eq hn)) fun D σ H h => by
  obtain ⟨μ, ρ, S, z, hs, hr, hm, fi⟩ := h
  show tI X.K xr Wx kk ms σ H _
  rcases bnd_inv hm with ⟨k, a, S1, e, rfl⟩ | ⟨ws, S1, e, h1⟩
  · exact ⟨μ, ρ, S, _, hs, hr, e, fun μ' H' c d st rs xx => fi μ' H' c d σ st rs xx⟩
  refine ⟨μ, ρ, S, _, hs, hr, e, ?_⟩
  dsimp only at h1 ⊢
  split at h1
  · rename_i xs gg ei
    split at h1
    · refine ⟨xs, gg, ei, fun μ1 H1 J st1 rs1 liv => ?_⟩
      refine ⟨fun i m σ' H' => i ≤ xs.length ∧ m = xs.length - i ∧ ∃ μ' ρ' S', Stp μ1 H1 μ' H' ∧ RS X.K μ' S' H' ∧ RE X.K μ' H' ρ' σ' ∧ forE (asg q) mf S1 gg (xs.drop i) ρ' S' = some z, ⟨xs.length, by omega, by omega, μ1, ρ, S1, Stp.refl rs1, rs1, hr.stp st1, by simpa using h1⟩, ?_⟩
      rintro i m σ' H' ⟨hi, rfl, μ', ρ', S', st, rs, re, hc⟩
      have fi1 := fi.stp (st1.trans st)
      by_cases hx : i = xs.length
      · subst hx
        rw [List.drop_length, forE] at hc
        obtain ⟨sy, hc⟩ := staying_ok hc
        cases hc
        exact .inl ⟨(liv μ' _ H' st rs sy).2, fi1 μ' H' _ (Stp.refl rs) rs re⟩
      · have hlt : i < xs.length := by omega
        rw [List.drop_eq_getElem_cons hlt, forE] at hc
        obtain ⟨sy, hc⟩ := staying_ok hc
        obtain ⟨go, yl⟩ := (liv μ' S' H' st rs sy).1 i xs[i] (List.getElem?_eq_getElem hlt)
        refine .inr ⟨go, _, fun σ2 H2 w => ⟨xs.length - (i + 1), by omega, w⟩, fun x' H2 y => ?_⟩
        obtain ⟨st2, rs2, rd2⟩ := yl x' H2 y
        rcases bnd_inv hc with ⟨k, a, S3, e5, _⟩ | ⟨ρ2, S3, e5, h5⟩
        · exact absurd e5 (asg_ne _ _ _ _ _ _ _)
        refine ⟨μ', ρ', S', xs[i], ρ2, S3, rs2, re.stp st2, rd2, e5, fun μ3 H3 σ3 st3 rs3 re3 _ => ?_⟩
        have fi3 := (fi1.stp st2).stp st3
        rcases bnd_inv h5 with ⟨k, a, S4, e6, rfl⟩ | ⟨f, S4, e6, h6⟩
        · exact ⟨μ3, ρ2, S3, _, rs3, re3, e6, fi3⟩
        · refine ⟨μ3, ρ2, S3, _, rs3, re3, e6, ?_⟩
          cases f with
          | nx ρ4 => exact fun μ4 H4 σ4 st4 rs4 re4 => ⟨by omega, rfl, μ4, ρ4, S4, ((st.trans st2).trans st3).trans st4, rs4, re4, h6⟩
          | ct ρ4 => exact fun μ4 H4 σ4 st4 rs4 re4 => ⟨by omega, rfl, μ4, ρ4, S4, ((st.trans st2).trans st3).trans st4, rs4, re4, h6⟩
          | bk ρ4 => cases h6; exact fi3
          | rt w => cases h6; exact fi3
          | rl w => cases h6; exact fi3
    · cases h1
  · cases h1
theorem s_app {apos cpos : Pos} (g : Gd T sm xr k Γ X Wx) (hi : Γ.N[i]? = some x) (hv : visB Γ x = true) (ho : okN x = true) (hl : (apos.endLine == cpos.line) = true) (hn : nst e = true) (he : EE X xr Wx e m) :
    ES X xr Wx (.Expr (.Call (.Attribute (.Name x p) "append" apos) [e] [] cpos) pos) fun ρ => bnd (lift (match ρ[i]? with
      | some (some (.l j)) => some j
      | _ => none)) fun j => bnd (m ρ) fun w => bnd (onD w) fun d => fun S => match S[j]? with
    | some xs => if xs.length < LIM then some (.ok (.nx ρ) (S.set j (xs ++ [d]))) else none
    | none => none :=
  PSw (ps_expr (pe_bm PySem.F.plainAttrs_list PySem.F.slot_list_append PySem.F.type_list_append mt_append (pe_var (g.n hi) (g.vis hv) (okN_ok ho).1 (okN_ok ho).2.1) (pa_cons he pa_nil (star_cons hn)) rfl (by
      rw [star_cons hn]; rfl) hl (star_cons hn) rfl)) fun D σ H h => by
  obtain ⟨μ, ρ, S, z, hs, hr, hm, fi⟩ := h
  obtain ⟨j, ej, h1⟩ := lift_ok hm
  split at ej <;> first | (cases ej; done) | skip
  rename_i j' e1
  cases ej
  obtain ⟨v, ev, aj, eaj, rfl⟩ := hr.at_ i _ e1
  refine ⟨_, ev, ?_⟩
  have hjl : j < S.length := by rw [← hs.len]; exact (List.getElem?_eq_some_iff.mp eaj).1
  obtain ⟨vs0, e0, r0⟩ := hs.at_ j aj S[j] eaj (List.getElem?_eq_getElem hjl)
  refine ⟨.inl ⟨rfl, _, .inl (.inl e0)⟩, ?_⟩
  show tE X.K xr Wx m σ H _
  refine sqS hs hr h1 fi fun μ1 S1 H1 w v st1 rs1 re1 rw1 h2 fi1 => ?_
  obtain ⟨d, rd, h3⟩ := onD_ok rw1 h2
  split at h3 <;> first | (cases h3; done) | skip
  rename_i xs e2
  split at h3 <;> first | (cases h3; done) | skip
  rename_i hlen
  cases h3
  have eaj1 : μ1.l[j]? = some aj := by
    obtain ⟨t, z⟩ := st1.pre
    rw [z, List.getElem?_append_left (List.getElem?_eq_some_iff.mp eaj).1]
    exact eaj
  obtain ⟨vs, e3, r3⟩ := rs1.at_ j aj xs eaj1 e2
  obtain ⟨st2, rs2⟩ := write_loc rs1 eaj1 (r3.append (.cons rd .nil))
  refine ⟨aj, vs, v, rfl, rfl, e3, ?_, fi1 μ1 _ σ st2 rs2 (re1.stp st2)⟩
  rw [← r3.length, sizeLine_eq]
  have : LIM = 100000 := rfl
  omega
end

/-! ### stores that are swapped -/
def fnK (Γ : Cfg) : Bool := match Γ.sc.kind with
  | .function => true
  | _ => false
def isStar : Expr → Bool
  | .Starred .. => true
  | _ => false
def swNm (kd : Str → Option NameKind) (ts : List Expr) : List Str := ts.filterMap fun
    | .Name id pos => if kd id == some .local && pos.line == (ts.head?.map (·.pos.line)).getD 0 then some id else none
    | _ => none
abbrev swNames (Γ : Cfg) (ts : List Expr) : List Str := swNm (fun x => Γ.sc.names.lookup x) ts
def swL (Γ : Cfg) (ts vs : List Expr) : Option (Option (List Str)) :=
  if !(ts.length == 2 || ts.length == 3) || vs.length != ts.length then some none
  else if vs.any isStar then some none
  else if (swNames Γ ts).length != ts.length || (swNames Γ ts).eraseDups.length != (swNames Γ ts).length then some none
  else if vs.all (foldedForSure 8) then some none
  else if vs.all (constantsAlone 8) then none
  else some (some (swNames Γ ts))
def swB (Γ : Cfg) (tg e : Expr) : Option (Option (List Str)) := match tg with
  | .Tuple ts _ _ => (match e with
    | .Tuple vs _ _ => swL Γ ts vs
    | _ => some none)
  | .List _ _ => none
  | _ => some none
theorem sw_eq (ts vs : List Expr) (kt kv : Nat) (pt pv : Pos) (env : Env) : ∃ Z, swappedStores [.Tuple ts kt pt] (.Tuple vs kv pv) env =
    if !(ts.length == 2 || ts.length == 3) || vs.length != ts.length || env.blockKind != .function then pure none
    else if vs.any isStar then pure none
    else if (swNm env.kindOf ts).length != ts.length || (swNm env.kindOf ts).eraseDups.length != (swNm env.kindOf ts).length then pure none
    else if vs.all (foldedForSure 8) then pure none
    else if vs.all (constantsAlone 8) then Z
    else pure (some (swNm env.kindOf ts)) := ⟨_, rfl⟩
theorem swB_ok {Γ : Cfg} {tg e : Expr} {env : Env} {r : Option (List Str)} (hs : env.scope = Γ.sc) (hk : fnK Γ = true) (h : swB Γ tg e = some r) : swappedStores [tg] e env = pure r := by
  have hb : (env.blockKind != .function) = false := by
    unfold Env.blockKind
    rw [hs]
    unfold fnK at hk
    split at hk
    · rename_i q; rw [q]; rfl
    · cases hk
  cases tg with
  | Tuple ts kt pt =>
    cases e with
    | Tuple vs kv pv =>
      have h : swL Γ ts vs = some r := h
      obtain ⟨Z, ez⟩ := sw_eq ts vs kt kv pt pv env
      have hn : swNm env.kindOf ts = swNames Γ ts := by
        have : env.kindOf = fun x => Γ.sc.names.lookup x := by
          funext x
          unfold Env.kindOf
          rw [hs]
        rw [this]
      rw [ez, hb, Bool.or_false, hn]
      unfold swL at h
      by_cases c1 : (!(ts.length == 2 || ts.length == 3) || vs.length != ts.length) = true
      · rw [if_pos c1] at h ⊢
        cases h; rfl
      rw [if_neg c1] at h ⊢
      by_cases c2 : vs.any isStar = true
      · rw [if_pos c2] at h ⊢
        cases h; rfl
      rw [if_neg c2] at h ⊢
      by_cases c3 : ((swNames Γ ts).length != ts.length || (swNames Γ ts).eraseDups.length != (swNames Γ ts).length) = true
      · rw [if_pos c3] at h ⊢
        cases h; rfl
      rw [if_neg c3] at h ⊢
      by_cases c4 : vs.all (foldedForSure 8) = true
      · rw [if_pos c4] at h ⊢
        cases h; rfl
      rw [if_neg c4] at h ⊢
      by_cases c5 : vs.all (constantsAlone 8) = true
      · rw [if_pos c5] at h; cases h
      rw [if_neg c5] at h ⊢
      cases h; rfl
    | _ => cases h; rfl
  | List _ _ => cases h
  | _ => cases h; cases e <;> rfl
end DL

namespace DL
open PySem PySem.Spec PyProof.Rows L2

def isLc : Expr → Bool
  | .ListComp _ _ _ _ => true
  | _ => false
def swC (Γ : Cfg) (x : Str) (p : Pos) : Expr → Bool
  | .ListComp e g s q => Γ.sc.names.lookup x == some .local && p.line == q.line && !(s.names.any fun (n, k) => n == x && (k == .local || k == .cell))
  | _ => false
theorem blkK {Γ : Cfg} {env : Env} (hs : env.scope = Γ.sc) (hk : fnK Γ = true) : env.blockKind = .function := by
  unfold Env.blockKind
  rw [hs]
  unfold fnK at hk
  split at hk
  · rename_i q; rw [q]; rfl
  · cases hk
theorem swC_ok {Γ : Cfg} {env : Env} {x : Str} {p : Pos} {l : Nat} {y : Expr} (hs : env.scope = Γ.sc) (hk : fnK Γ = true) (h : ncmp y = true ∨ isLc y = true) : swapsWith y (some (.Name x p)) l env = pure (swC Γ x p y) := by
  rcases h with h | h
  · rw [ncmp_eq h]
    cases y <;> first | rfl | cases h
  · cases y <;> first | (cases h; done) | skip
    show pure (env.blockKind == .function && env.kindOf x == some .local && _ && _) = pure _
    rw [blkK hs hk]
    unfold Env.kindOf
    rw [hs]
    rfl
def isTS : Expr → Bool
  | .Tuple _ _ _ => true
  | .Subscript _ _ _ => true
  | _ => false
theorem sw_ts {tg y : Expr} {l : Nat} {env : Env} (h : ncmp y = true ∨ isTS tg = true) : swapsWithSole [tg] y l env = pure false := by
  rcases h with h | h
  · exact ncmp_eq h
  · cases tg <;> first | (cases h; done) | (cases y <;> rfl)
mutual
def chkS (T : Tb) (Γ : Cfg) : Sx → Stmt → Bool
  | .set i e, x => match x with
    | .Assign [.Name n p] y _ => decide (Γ.N[i]? = some n) && stB Γ n && (ncmp y || isLc y) && !(swC Γ n p y) && chkE T e Γ y
    | _ => false
  | .setC i e, x => match x with
    | .Assign [.Name n p] y _ => decide (Γ.N[i]? = some n) && decide (Γ.sc.names.lookup n = some .local) && isLc y && swC Γ n p y && chkE T e Γ y && (match e with
      | .cmpr .. => true
      | _ => false)
    | _ => false
  | .asgn q e, x => match x with
    | .Assign [tg] y _ => nst tg && chkP Γ q tg && chkE T e Γ y && (ncmp y || isTS tg) && decide (swB Γ tg y = some none)
    | _ => false
  | .par is es, x => match x with
    | .Assign [.Tuple [.Name n p, .Name n' p'] kt pt] (.Tuple [u, v] k2 p2) _ => (match is with
      | [i, j] => decide (Γ.N[i]? = some n) && decide (Γ.N[j]? = some n') && decide (i ≠ j) && decide (Γ.sc.names.lookup n = some .local) && decide (Γ.sc.names.lookup n' = some .local) && nst u && nst v && chkEs T es Γ [u, v] &&
        decide (swB Γ (.Tuple [.Name n p, .Name n' p'] kt pt) (.Tuple [u, v] k2 p2) = some (some [n, n']))
      | _ => false)
    | .Assign [.Tuple [.Name n p, .Name n' p', .Name n'' p''] kt pt] (.Tuple [u, v, w] k2 p2) _ => (match is with
      | [i, j, l] => decide (Γ.N[i]? = some n) && decide (Γ.N[j]? = some n') && decide (Γ.N[l]? = some n'') && decide (i ≠ j) && decide (i ≠ l) && decide (j ≠ l) && decide (Γ.sc.names.lookup n = some .local) && decide (Γ.sc.names.lookup n' = some .local) && decide (Γ.sc.names.lookup n'' = some .local) && nst u && nst v && nst w && chkEs T es Γ [u, v, w] &&
        decide (swB Γ (.Tuple [.Name n p, .Name n' p', .Name n'' p''] kt pt) (.Tuple [u, v, w] k2 p2) = some (some [n, n', n'']))
      | _ => false)
    | _ => false
  | .exp e, x => match x with
    | .Expr y _ => ncmp y && chkE T e Γ y
    | _ => false
  | .doc, x => match x with
    | .Expr (.Constant (.str _) _ _) _ => true
    | _ => false
  | .app i e, x => match x with
    | .Expr (.Call (.Attribute (.Name n _) at_ apos) [y] [] cpos) _ => decide (at_ = "append") && decide (Γ.N[i]? = some n) && visB Γ n && okN n && (apos.endLine == cpos.line) && nst y && chkE T e Γ y
    | _ => false
  | .iff t a b, x => match x with
    | .If c sa sb _ => chkE T t Γ c && chkSs T Γ a sa && chkSs T Γ b sb
    | _ => false
  | .iffT t a b, x => match x with
    | .If c sa sb _ => chkE T t Γ c && chkSs T Γ a sa && chkSs T Γ b sb
    | _ => false
  | .whl t b, x => match x with
    | .While c sb [] _ => chkE T t Γ c && chkSs T Γ b sb
    | _ => false
  | .fors q k src b, x => match x with
    | .For tg iter sb [] _ => nset iter && (match srcArgs Γ tg k iter with
        | some ys => chkEs T src Γ ys
        | none => false) && chkP Γ q tg && chkSs T Γ b sb
    | _ => false
  | .ret e, x => match x with
    | .Return (some y) _ => chkE T e Γ y
    | _ => false
  | .retL e, x => match x with
    | .Return (some y) _ => chkE T e Γ y
    | _ => false
  | .pass, x => match x with
    | .Pass _ => true
    | _ => false
  | .brk, x => match x with
    | .Break _ => true
    | _ => false
  | .cnt, x => match x with
    | .Continue _ => true
    | _ => false
  | .never, _ => true
def chkSs (T : Tb) (Γ : Cfg) : List Sx → List Stmt → Bool
  | [], xs => xs.isEmpty
  | s :: ss, xs => match xs with
    | x :: xs => chkS T Γ s x && chkSs T Γ ss xs
    | [] => false
end
section
variable {T : Tb} {sm : Sm} {xr : XRel} {k : Nat} {Γ : Cfg}
def MN (T : Tb) (sm : Sm) (xr : XRel) (k : Nat) (Γ : Cfg) (s : Sx) : Prop := ∀ (X : Cx) (Wx : WX) (x : Stmt), Gd T sm xr k Γ X Wx → fnK Γ = true → chkS T Γ s x = true → ES X xr Wx x (exS sm s)
def ML (T : Tb) (sm : Sm) (xr : XRel) (k : Nat) (Γ : Cfg) (s : List Sx) : Prop := ∀ (X : Cx) (Wx : WX) (x : List Stmt), Gd T sm xr k Γ X Wx → fnK Γ = true → chkSs T Γ s x = true → ESs X xr Wx x (exSs sm s)
theorem ml_nil : ML T sm xr k Γ [] := by
  intro X Wx x g hk h
  unfold chkSs at h
  cases x with
  | nil => simpa only [exSs] using ss_nil (X := X) (xr := xr) (Wx := Wx)
  | cons => cases h
theorem ml_cons {s : Sx} {ss : List Sx} (i1 : MN T sm xr k Γ s) (i2 : ML T sm xr k Γ ss) : ML T sm xr k Γ (s :: ss) := by
  intro X Wx x g hk h
  unfold chkSs at h
  cases x with
  | nil => cases h
  | cons x xs =>
    simp only [Bool.and_eq_true] at h
    have := ss_cons (i1 X Wx x g hk h.1) (i2 X Wx xs g hk h.2)
    simp only [exSs]
    exact this
theorem mn_set {i : Nat} {e : Ex} : MN T sm xr k Γ (.set i e) := by
  intro X Wx x g hk h
  unfold chkS at h
  split at h
  · simp only [Bool.and_eq_true, Bool.or_eq_true, decide_eq_true_eq, Bool.not_eq_true'] at h
    obtain ⟨⟨⟨⟨h1, h2⟩, h3⟩, h4⟩, h5⟩ := h
    simp only [exS]
    exact s_set g h1 h2 (by rw [swC_ok g.sc hk h3, h4]) (snd e Γ X Wx _ g h5).1
  · cases h
theorem mn_asgn {q : Pat} {e : Ex} : MN T sm xr k Γ (.asgn q e) := by
  intro X Wx x g hk h
  unfold chkS at h
  split at h
  · simp only [Bool.and_eq_true, Bool.or_eq_true, decide_eq_true_eq] at h
    obtain ⟨⟨⟨⟨h1, h2⟩, h3⟩, h4⟩, h5⟩ := h
    simp only [exS]
    exact s_asgn (snd e Γ X Wx _ g h3).1 (sndP g q _ h2) (sw_ts h4) (swB_ok g.sc hk h5) h1
  · cases h
theorem mn_par {is : List Nat} {es : List Ex} : MN T sm xr k Γ (.par is es) := by
  intro X Wx x g hk h
  unfold chkS at h
  split at h
  · split at h
    · simp only [Bool.and_eq_true, decide_eq_true_eq] at h
      obtain ⟨⟨⟨⟨⟨⟨⟨⟨h1, h2⟩, h3⟩, h4⟩, h5⟩, h6⟩, h7⟩, h8⟩, h9⟩ := h
      simp only [exS]
      exact s_par2 g h1 h2 h3 h4 h5 ((sndL es Γ X Wx _ g h8).args (by simp [h6, h7])) (swB_ok g.sc hk h9)
    · cases h
  · split at h
    · simp only [Bool.and_eq_true, decide_eq_true_eq] at h
      obtain ⟨⟨⟨⟨⟨⟨⟨⟨⟨⟨⟨⟨⟨h1, h2⟩, h3⟩, h4⟩, h5⟩, h6⟩, h7⟩, h8⟩, h9⟩, h10⟩, h11⟩, h12⟩, h13⟩, h14⟩ := h
      simp only [exS]
      exact s_par3 g h1 h2 h3 h4 h5 h6 h7 h8 h9 ((sndL es Γ X Wx _ g h13).args (by simp [h10, h11, h12])) (swB_ok g.sc hk h14)
    · cases h
  · cases h
theorem mn_exp {e : Ex} : MN T sm xr k Γ (.exp e) := by
  intro X Wx x g hk h
  unfold chkS at h
  split at h
  · simp only [Bool.and_eq_true] at h
    simp only [exS]
    exact s_exp (snd e Γ X Wx _ g h.2).1 h.1
  · cases h
theorem mn_doc : MN T sm xr k Γ .doc := by
  intro X Wx x g hk h
  unfold chkS at h
  split at h
  · simp only [exS]
    exact s_doc
  · cases h
theorem mn_app {i : Nat} {e : Ex} : MN T sm xr k Γ (.app i e) := by
  intro X Wx x g hk h
  unfold chkS at h
  split at h
  · simp only [Bool.and_eq_true, decide_eq_true_eq] at h
    obtain ⟨⟨⟨⟨⟨⟨rfl, h2⟩, h3⟩, h4⟩, h5⟩, h6⟩, h7⟩ := h
    simp only [exS]
    exact s_app g h2 h3 h4 h5 h6 (snd e Γ X Wx _ g h7).1
  · cases h
theorem mn_iff {t : Ex} {a b : List Sx} (ia : ML T sm xr k Γ a) (ib : ML T sm xr k Γ b) : MN T sm xr k Γ (.iff t a b) := by
  intro X Wx x g hk h
  unfold chkS at h
  split at h
  · simp only [Bool.and_eq_true] at h
    simp only [exS]
    exact s_iff (snd t Γ X Wx _ g h.1.1).2 (ia X Wx _ g hk h.1.2) (ib X Wx _ g hk h.2)
  · cases h
theorem mn_iffT {t : Ex} {a b : List Sx} (ia : ML T sm xr k Γ a) (ib : ML T sm xr k Γ b) : MN T sm xr k Γ (.iffT t a b) := by
  intro X Wx x g hk h
  unfold chkS at h
  split at h
  · simp only [Bool.and_eq_true] at h
    simp only [exS]
    exact s_iffT (snd t Γ X Wx _ g h.1.1).2 (ia X Wx _ g hk h.1.2) (ib X Wx _ g hk h.2)
  · cases h
theorem mn_whl {t : Ex} {b : List Sx} (ib : ML T sm xr k Γ b) : MN T sm xr k Γ (.whl t b) := by
  intro X Wx x g hk h
  unfold chkS at h
  split at h
  · simp only [Bool.and_eq_true] at h
    simp only [exS]
    exact s_whl g (snd t Γ X Wx _ g h.1).2 (ib X Wx _ g hk h.2)
  · cases h
theorem mn_fors {q : Pat} {kk : SK} {src : List Ex} {b : List Sx} (ib : ML T sm xr k Γ b) : MN T sm xr k Γ (.fors q kk src b) := by
  intro X Wx x g hk h
  unfold chkS at h
  split at h
  · simp only [Bool.and_eq_true] at h
    obtain ⟨⟨⟨h1, h2⟩, h3⟩, h4⟩ := h
    simp only [exS]
    have hi : ∀ {tg iter}, (match srcArgs Γ tg kk iter with
        | some ys => chkEs T src Γ ys
        | none => false) = true → PI X tg iter (tI X.K xr Wx kk (evEs sm src)) := fun {tg iter} h6 => by
      split at h6
      · exact src_ok g (by assumption) (sndL src Γ X Wx _ g h6)
      · cases h6
    exact s_for g (hi h2) (sndP g q _ h3) (ib X Wx _ g hk h4) h1
  · cases h
theorem mn_ret {e : Ex} : MN T sm xr k Γ (.ret e) := by
  intro X Wx x g hk h
  unfold chkS at h
  split at h
  · simp only [exS]
    exact s_ret (snd e Γ X Wx _ g h).1
  · cases h
theorem mn_retL {e : Ex} : MN T sm xr k Γ (.retL e) := by
  intro X Wx x g hk h
  unfold chkS at h
  split at h
  · simp only [exS]
    exact s_retL (snd e Γ X Wx _ g h).1
  · cases h
theorem mn_pass : MN T sm xr k Γ .pass := by
  intro X Wx x g hk h
  unfold chkS at h
  split at h
  · simp only [exS]; exact s_pass
  · cases h
theorem mn_brk : MN T sm xr k Γ .brk := by
  intro X Wx x g hk h
  unfold chkS at h
  split at h
  · simp only [exS]; exact s_brk
  · cases h
theorem mn_cnt : MN T sm xr k Γ .cnt := by
  intro X Wx x g hk h
  unfold chkS at h
  split at h
  · simp only [exS]; exact s_cnt
  · cases h
theorem mn_never : MN T sm xr k Γ .never := by
  intro X Wx x g hk h
  simp only [exS]; exact s_never
theorem mn_setC {i : Nat} {e : Ex} : MN T sm xr k Γ (.setC i e) := by
  intro X Wx x g hk h
  unfold chkS at h
  split at h
  · simp only [Bool.and_eq_true, decide_eq_true_eq] at h
    obtain ⟨⟨⟨⟨⟨h1, h2⟩, h3⟩, h4⟩, h5⟩, h6⟩ := h
    split at h6 <;> first | (cases h6; done) | skip
    rename_i kk src p cs e own
    unfold chkE at h5
    split at h5
    · rename_i elt tg iter ifs scope p1
      simp only [Bool.and_eq_true, decide_eq_true_eq, List.all_eq_true] at h5
      obtain ⟨⟨⟨⟨⟨⟨⟨⟨q1, q2⟩, q3⟩, q4⟩, q5⟩, q6⟩, q7⟩, q8⟩, q9⟩ := h5
      have hi : PI X tg iter (tI X.K xr Wx kk (evEs sm src)) := by
        split at q6
        · exact src_ok g (by assumption) (sndL src Γ X Wx _ g q6)
        · cases q6
      simp only [exS, evE]
      refine PSw (ps_setLc (te := tE X.K xr W0 (evE sm e)) (tt := tT X.K xr W0 fun ρ => cndE sm cs ρ) (g := tGt X.K p.slots (asg p)) g.calm g.xnd (g.n h1) (by rw [g.sc]; exact h2) (by rw [swC_ok g.sc hk (.inr h3), h4]) hi (blkOk_ok g q2) (fun s H C cl fp => sndP (g.blk scope s H C cl fp) p tg q7) (fun s H C cl fp => (sndL cs _ _ _ _ (g.blk scope s H C cl fp) q8).tests q5) (fun s H C cl fp => (snd e _ _ _ _ (g.blk scope s H C cl fp) q9).1) (nset_eq q1)) fun D σ H h => ?_
      rw [q3]
      refine lc_read q4 σ H _ ?_
      obtain ⟨μ, ρ, S, z, hs, hr, hm, fi⟩ := h
      refine sqS hs hr hm fi fun μ1 S1 H1 x v st1 rs1 re1 rw1 h1 fi1 => ?_
      cases h1
      exact fi1 μ1 H1 _ (Stp.refl rs1) rs1 (re1.set rw1)
    · cases h5
  · cases h
mutual
theorem sndS : ∀ (s : Sx), MN T sm xr k Γ s
  | .set _ _ => mn_set
  | .setC _ _ => mn_setC
  | .asgn _ _ => mn_asgn
  | .par _ _ => mn_par
  | .exp _ => mn_exp
  | .doc => mn_doc
  | .app _ _ => mn_app
  | .iff _ a b => mn_iff (sndSs a) (sndSs b)
  | .iffT _ a b => mn_iffT (sndSs a) (sndSs b)
  | .whl _ b => mn_whl (sndSs b)
  | .fors _ _ _ b => mn_fors (sndSs b)
  | .ret _ => mn_ret
  | .retL _ => mn_retL
  | .pass => mn_pass
  | .brk => mn_brk
  | .cnt => mn_cnt
  | .never => mn_never
theorem sndSs : ∀ (s : List Sx), ML T sm xr k Γ s
  | [] => ml_nil
  | s :: ss => ml_cons (sndS s) (sndSs ss)
end
end
end DL

namespace DL
open PySem PySem.Spec PyProof.Rows L2

/-! ### running a def -/
structure FD where
  np : Nat
  nl : Nat
  code : List Sx
def rho (nl : Nat) (ws : List W) : Env' := ws.map some ++ List.replicate (nl - ws.length) none
def fin (n : Nat) : Out Fl → Option (Out W)
  | .ok (.nx _) S' => some (.ok (.d .none) (S'.take n))
  | .ok (.rt (.d d)) S' => some (.ok (.d d) (S'.take n))
  | .ok (.rt (.l j)) S' => if n ≤ j then (S'[j]?).map fun xs => .ok (.d (.list xs)) (S'.take n) else none
  | .ok (.rl j) S' => if n ≤ j then (S'[j]?).map fun xs => .ok (.l n) (S'.take n ++ [xs]) else none
  | .ok (.bk _) _ => none
  | .ok (.ct _) _ => none
  | .exc k a S' => some (.exc k a (S'.take n))
noncomputable def runF (sm : Sm) (f : FD) (ws : List W) : Mo W := fun S => if ws.length = f.np then (exSs sm f.code (rho f.nl ws) S).bind (fin S.length) else none
noncomputable def smk (gl : Nat → Option PyData) (fs : List FD) : Nat → Sm
  | 0 => ⟨gl, fun _ _ => no⟩
  | k + 1 => ⟨gl, fun f ws => match fs[f]? with
    | some d => runF (smk gl fs k) d ws
    | none => no⟩
theorem smk_glob (gl : Nat → Option PyData) (fs : List FD) (k : Nat) : (smk gl fs k).glob = gl := by
  cases k <;> rfl

section
variable {K : PySem.W.Frag} {μ μ' : Mu} {H H' : Hp} {S S' : Sto}
theorem new_not (hs : RS K μ S H) (st : Stp μ H μ' H') (rs : RS K μ' S' H') {j : Nat} {a : Addr} (hj : S.length ≤ j) (ea : μ'.l[j]? = some a) : a ∉ μ.l := fun z => by
  obtain ⟨i, hi⟩ := List.getElem?_of_mem z
  obtain ⟨t, et⟩ := st.pre
  have hil := (List.getElem?_eq_some_iff.mp hi).1
  have e2 : μ'.l[i]? = some a := by rw [et, List.getElem?_append_left hil]; exact hi
  obtain ⟨q1, q2⟩ := List.getElem?_eq_some_iff.mp ea
  obtain ⟨q3, q4⟩ := List.getElem?_eq_some_iff.mp e2
  have := (List.getElem_inj rs.nd).mp (q2.trans q4.symm)
  have := hs.len
  omega
theorem trunc_l (hs : RS K μ S H) (st : Stp μ H μ' H') (rs : RS K μ' S' H') {j : Nat} {a : Addr} {xs : List PyData} (hj : S.length ≤ j) (ea : μ'.l[j]? = some a) (ex : S'[j]? = some xs) :
    Stp μ H ⟨μ.l ++ [a], μ.h⟩ H' ∧ RS K ⟨μ.l ++ [a], μ.h⟩ (S'.take S.length ++ [xs]) H' ∧ RW K ⟨μ.l ++ [a], μ.h⟩ H' (.l S.length) (.ref a) := by
  obtain ⟨s1, s2, s3⟩ := trunc hs st rs
  obtain ⟨t, et⟩ := st.pre
  have na := new_not hs st rs hj ea
  have am : a ∈ μ'.l := List.mem_of_getElem? ea
  have g : Gen K μ' H' ⟨μ.l ++ [a], μ.h⟩ H' := gen_less fun b h => by
    rcases h with q | q
    · rcases List.mem_append.mp q with z | z
      · exact .inl (by rw [et]; exact List.mem_append_left _ z)
      · obtain rfl : b = a := by simpa using z
        exact .inl am
    · exact .inr (st.hsub b q)
  have hl : (S'.take S.length).length = μ.l.length := s2.len.symm
  obtain ⟨us, h1, h2⟩ := rs.at_ j a xs ea ex
  refine ⟨⟨⟨[a], rfl⟩, st.keep, fun b h => ?_, st.old, fun _ h => .inl h, fun _ h => h⟩, ⟨by simp [hs.len, ← s2.len], List.nodup_append.mpr ⟨hs.nd, by simp, fun b hb c hc => ?_⟩, fun i b ys e1 e2 => ?_, fun b hb => ?_⟩, a, ?_, rfl⟩
  · rcases List.mem_append.mp h with z | z
    · exact .inl z
    · obtain rfl : b = a := by simpa using z
      rcases st.new b am with q | q
      · exact .inl q
      · exact .inr q
  · obtain rfl : c = a := by simpa using hc
    rintro rfl
    exact na hb
  · by_cases hi : i < μ.l.length
    · have e1 : (μ.l ++ [a])[i]? = some b := e1
      rw [List.getElem?_append_left hi] at e1
      rw [List.getElem?_append_left (by rw [hl]; exact hi)] at e2
      have hi2 : i < S.length := by rw [← hs.len]; exact hi
      rw [List.getElem?_take_of_lt hi2] at e2
      obtain ⟨vs, a1, a2⟩ := rs.at_ i b ys (by rw [et, List.getElem?_append_left hi]; exact e1) e2
      exact ⟨vs, a1, RDs.gen g _ _ a2⟩
    · have e1 : (μ.l ++ [a])[i]? = some b := e1
      have hi3 : i = μ.l.length := by
        have := (List.getElem?_eq_some_iff.mp e1).1
        simp at this
        omega
      subst hi3
      rw [← hl] at e2
      simp at e1 e2
      subst e1 e2
      exact ⟨us, h1, RDs.gen g _ _ h2⟩
  · obtain ⟨q1, q2⟩ := rs.hid b (st.hsub b hb)
    refine ⟨fun z => ?_, q2⟩
    rcases List.mem_append.mp z with y | y
    · exact q1 (by rw [et]; exact List.mem_append_left _ y)
    · obtain rfl : b = a := by simpa using y
      exact q1 am
  · show (μ.l ++ [a])[S.length]? = some a
    rw [← hs.len]; simp
theorem rho_ok {N : List Str} {ws : List W} {vs : List V} (r : RWs K μ H ws vs) : RE K μ H (rho N.length ws) (L2.start N vs) := by
  have hl := RWs.length r
  refine ⟨by unfold rho L2.start; simp [hl], fun i w e => ?_⟩
  unfold rho at e
  have hi : i < ws.length := by
    by_cases hi : i < ws.length
    · exact hi
    · rw [List.getElem?_append_right (by simpa using hi), List.getElem?_replicate] at e
      split at e <;> cases e
  rw [List.getElem?_append_left (by simpa using hi), List.getElem?_map] at e
  cases q : ws[i]? with
  | none => rw [q] at e; cases e
  | some u =>
    rw [q] at e
    cases e
    obtain ⟨v, h1, h2⟩ := RWs.get r q
    refine ⟨v, ?_, h2⟩
    unfold L2.start
    rw [List.getElem?_append_left (by simp; omega), List.getElem?_map, h1]
    rfl
end
def XOk (K : PySem.W.Frag) (xr : XRel) : Prop := ∀ k a μ μ' H c d, Gen K μ' H μ H → xr k a μ' H c d → xr k a μ H c d
/-- what is known of a def -/
structure Fact (P : Program) (w : World) (K : PySem.W.Frag) (mg : Str → Option Value) (T : Tb) (fs : List FD) (f : Nat) : Prop where
  ex : ∃ a fd x qual params body scope ps N code, mg (T.fname f) = some (.ref a) ∧ FunD K x qual params body scope [] [] a fd ∧ FnScope N ps scope ∧ fs[f]? = some ⟨ps.length, N.length, code⟩ ∧
    fnK ⟨N, scope, none⟩ = true ∧ chkSs T ⟨N, scope, none⟩ code body = true ∧ Binds K fd ps [] ∧ ∀ n ks pm, (n, ks, pm) ∈ T.kws f → KwTo K fd ps n ks pm
structure Glo (K : PySem.W.Frag) (mg : Str → Option Value) (T : Tb) (gl : Nat → Option PyData) : Prop where
  glob : ∀ g x, gl g = some x → ∃ u v, mg (T.gname g) = some u ∧ RelV v u ∧ ∀ (μ : Mu) H, (∀ a ∈ μ.l, ∃ vs, H a = some (.lst vs)) → RD K μ H x v
  blt : ∀ x ∈ bltNames, mg x = none
  math : ∀ b ∈ T.maths, isMath b = true → mg (nameB b) = some (valB b)
section
variable {P : Program} {w : World} {K : PySem.W.Frag} {mg : Str → Option Value} {base : Heap} {T : Tb} {fs : List FD} {gl : Nat → Option PyData} {xr : XRel}
theorem body_ok {d : FD} {sm : Sm} {ps N : List Str} {vs : List V} {H : Hp} {Q : VK} {E : XK} (hx : XOk K xr) (hn : d.nl = N.length) (h : spD K xr (runF sm d) vs H Q E) :
    tS K xr (fun cls dd _ H => E cls dd H) (exSs sm d.code) { nx := fun _ H' => Q .non H', rt := Q } (L2.start N vs) H := by
  obtain ⟨μ, S, ws, r, hs, hw, hm, q⟩ := h
  unfold runF at hm
  by_cases hl : ws.length = d.np
  · rw [if_pos hl] at hm
    cases e : exSs sm d.code (rho d.nl ws) S with
    | none => rw [e] at hm; cases hm
    | some o =>
      rw [e] at hm
      have hm : fin S.length o = some r := hm
      refine ⟨μ, rho N.length ws, S, o, hs, rho_ok hw, by rw [← hn]; exact e, ?_⟩
      cases o with
      | exc k a S' =>
        cases hm
        intro μ' H' c dd σ' st rs x
        obtain ⟨s1, s2, s3⟩ := trunc hs st rs
        exact q μ H' c dd s1 s2 (hx _ _ _ _ _ _ _ s3 x)
      | ok f S' =>
        cases f with
        | nx ρ' =>
          cases hm
          intro μ' H' σ' st rs re
          obtain ⟨s1, s2, s3⟩ := trunc hs st rs
          exact q μ H' _ s1 s2 .non
        | bk ρ' => cases hm
        | ct ρ' => cases hm
        | rl j =>
          simp only [fin] at hm
          by_cases hj : S.length ≤ j
          · rw [if_pos hj] at hm
            intro μ' H' v st rs rw_
            obtain ⟨s1, s2, s3⟩ := trunc hs st rs
            obtain ⟨a, ea, rfl⟩ := rw_
            cases ex : S'[j]? with
            | none => rw [ex] at hm; cases hm
            | some xs =>
              rw [ex] at hm
              cases hm
              obtain ⟨us, h1, h2⟩ := rs.at_ j a xs ea ex
              obtain ⟨z1, z2, z3⟩ := trunc_l hs st rs hj ea ex
              exact q _ H' _ z1 z2 z3
          · rw [if_neg hj] at hm; cases hm
        | rt u =>
          cases u with
          | d x =>
            cases hm
            intro μ' H' v st rs rw_
            obtain ⟨s1, s2, s3⟩ := trunc hs st rs
            exact q μ H' _ s1 s2 (RD.gen s3 _ _ rw_)
          | l j =>
            simp only [fin] at hm
            by_cases hj : S.length ≤ j
            · rw [if_pos hj] at hm
              intro μ' H' v st rs rw_
              obtain ⟨s1, s2, s3⟩ := trunc hs st rs
              obtain ⟨a, ea, rfl⟩ := rw_
              cases ex : S'[j]? with
              | none => rw [ex] at hm; cases hm
              | some xs =>
                rw [ex] at hm
                cases hm
                obtain ⟨us, h1, h2⟩ := rs.at_ j a xs ea ex
                exact q μ H' _ s1 s2 (.lst (.inl h1) (new_not hs st rs hj ea) (fun z => (rs.hid a (st.hsub a z)).1 (List.mem_of_getElem? ea)) (RDs.gen s3 _ _ h2))
            · rw [if_neg hj] at hm; cases hm
  · rw [if_neg hl] at hm; cases hm
theorem gd_cx {k : Nat} {N ps : List Str} {qual : Str} {scope : Scope} {f : Addr} {cd : Value} {A : Around} {outer : List Env} {s : Shared} {H : Hp} {E : XK} {sm : Sm} (S : FnScope N ps scope) (G : Glo K mg T gl) (hr : Room (k + 1) A) (hgd : A.guards = some []) (hsm : sm.glob = gl)
    (IH : ∀ f, f < T.nf → ∃ a fd ps, mg (T.fname f) = some (.ref a) ∧ PySem.W.keepIn K (.ref a) = true ∧ FnG P w K mg base (L2.CX P w) k a fd ps (spD K xr (sm.call f)) ∧ Binds K fd ps [] ∧ ∀ n ks pm, (n, ks, pm) ∈ T.kws f → KwTo K fd ps n ks pm) :
    Gd T sm xr k ⟨N, scope, none⟩ (cxOf (L2.CX P w) P w K mg base N qual scope f cd A outer s H E) (fun cls dd _ H => E cls dd H) where
  N := rfl
  nd := S.nd
  sc := rfl
  fn := fun _ => rfl
  calm := rfl
  room := hr.deeper _
  grd := hgd
  un := by
    have := (hr.deeper (envOfC qual scope s.heap.objs.size f cd)).un
    show (A.deeper (envOfC qual scope s.heap.objs.size f cd)).units + 65 < cLine
    omega
  tk := takes_of (X := cxOf (L2.CX P w) P w K mg base N qual scope f cd A outer s H E) rfl rfl rfl rfl
  po := passes_of (X := cxOf (L2.CX P w) P w K mg base N qual scope f cd A outer s H E) rfl
  glob := fun g x e => G.glob g x (by rw [← hsm]; exact e)
  call := IH
  blt := G.blt
  math := G.math
theorem fn_G {k f : Nat} {sm : Sm} {a : Addr} {fd : FuncData} {x qual : Str} {params : Arguments} {body : List Stmt} {scope : Scope} {ps N : List Str} {code : List Sx} (F : FunD K x qual params body scope [] [] a fd) (hS : FnScope N ps scope)
    (hk : fnK ⟨N, scope, none⟩ = true) (hc : chkSs T ⟨N, scope, none⟩ code body = true) (hx : XOk K xr) (G : Glo K mg T gl) (hsm : sm.glob = gl)
    (IH : ∀ f, f < T.nf → ∃ a fd ps, mg (T.fname f) = some (.ref a) ∧ PySem.W.keepIn K (.ref a) = true ∧ FnG P w K mg base (L2.CX P w) k a fd ps (spD K xr (sm.call f)) ∧ Binds K fd ps [] ∧ ∀ n ks pm, (n, ks, pm) ∈ T.kws f → KwTo K fd ps n ks pm) :
    FnG P w K mg base (L2.CX P w) (k + 1) a fd ps (spD K xr (runF sm ⟨ps.length, N.length, code⟩)) := by
  have hlen : ∀ vs H Q E, spD K xr (runF sm ⟨ps.length, N.length, code⟩) vs H Q E → vs.length = ps.length := fun vs H Q E h => by
    obtain ⟨μ, S, ws, r, hs, hw, hm, q⟩ := h
    unfold runF at hm
    by_cases hl : ws.length = ps.length
    · rw [← RWs.length hw]; exact hl
    · rw [if_neg hl] at hm; cases hm
  obtain ⟨oc, od, dV, kV, doc, pm, an, cdv, ct, osl, rfl, lk, hcd, _, _⟩ := F.ex
  refine ⟨hlen, fun A outer s H args us vs Q E hr hgd e0 hb r hsp => ?_⟩
  have hin : K.In s.heap := e0.mod.kin.keeps fun b o e => (e0.bs b o e).1
  have hlm : s.heap.NoLimit := e0.mod.nolimit.keeps fun b o e => (e0.bs b o e).1
  have hkd : ∀ y ∈ ps.zip us, scope.names.lookup y.1 = some .local ∨ (scope.names.lookup y.1 = some .cell ∧ ((cellsFrom (s.heap.objs.size + 1) scope.names []).lookup y.1).isSome = true) := by
    rintro ⟨n, v⟩ hy
    rcases hS.par n (List.of_mem_zip hy).1 with q | q
    · exact .inl q
    · exact .inr ⟨q, PySem.W.cellsFrom_some _ _ _ (.inl q)⟩
  refine codeAny_call_function hr.depth (hin _ _ lk) rfl hS.co hS.gen rfl (PySem.W.codeRec_of hin hcd) (hb _ _ _ _ ?_)
  refine wpAny_newFunctionEnv_cells hS.kind hkd fun env he s1 xx => ?_
  subst he
  refine ⟨hlm.keeps xx.toInCall.keep, codeAny_func ?_⟩
  have g : Gd T sm xr k ⟨N, scope, none⟩ (cxOf (L2.CX P w) P w K mg base N qual scope a cdv A outer s H E) (fun cls dd _ H => E cls dd H) := gd_cx hS G hr hgd hsm IH
  have hbody := sndSs code _ _ body g hk hc
  have I := inv_start (CX := L2.CX P w) (P := P) (qual := qual) (f := a) (cd := cdv) (E := E) hS hr.hd e0 (hlen _ _ _ _ hsp) r xx
  refine wpAny_mono (hbody.run [] s1 (L2.start N vs) H _ I (body_ok (d := ⟨ps.length, N.length, code⟩) (ps := ps) hx rfl hsp)) (fun fl s' hs => ?_) fun e s' hs => hs
  cases fl with
  | ret u =>
    obtain ⟨v, σ', H', J, rv, q⟩ := hs
    exact ⟨v, H', J.os, J.bare, J.base, J.hok, rv, q⟩
  | next =>
    obtain ⟨σ', H', J, q⟩ := hs
    exact ⟨V.non, H', J.os, J.bare, J.base, J.hok, rfl, q⟩
  | brk =>
    obtain ⟨_, _, _, q⟩ := hs
    exact False.elim q
  | cont =>
    obtain ⟨_, _, _, q⟩ := hs
    exact False.elim q
theorem fns (hx : XOk K xr) (G : Glo K mg T gl) (hf : ∀ f, f < T.nf → Fact P w K mg T fs f) : ∀ k f, f < T.nf →
    ∃ a fd ps, mg (T.fname f) = some (.ref a) ∧ PySem.W.keepIn K (.ref a) = true ∧ FnG P w K mg base (L2.CX P w) k a fd ps (spD K xr ((smk gl fs k).call f)) ∧ Binds K fd ps [] ∧ ∀ n ks pm, (n, ks, pm) ∈ T.kws f → KwTo K fd ps n ks pm
  | 0, f, h => by
    obtain ⟨a, fd, x, qual, params, body, scope, ps, N, code, h1, h2, h3, h4, h5, h6, h7, h8⟩ := (hf f h).ex
    have no_ : ∀ vs H Q E, ¬ spD K xr ((smk gl fs 0).call f) vs H Q E := fun vs H Q E z => by
      obtain ⟨μ, S, ws, r, hs, hw, hm, q⟩ := z
      cases hm
    exact ⟨a, fd, ps, h1, h2.kp, ⟨fun vs H Q E z => absurd z (no_ _ _ _ _), fun A outer s H args us vs Q E hr hgd e0 hb r hsp => absurd hsp (no_ _ _ _ _)⟩, h7, h8⟩
  | k + 1, f, h => by
    obtain ⟨a, fd, x, qual, params, body, scope, ps, N, code, h1, h2, h3, h4, h5, h6, h7, h8⟩ := (hf f h).ex
    have e : (smk gl fs (k + 1)).call f = runF (smk gl fs k) ⟨ps.length, N.length, code⟩ := by
      funext ws
      show (match fs[f]? with
        | some d => runF (smk gl fs k) d ws
        | none => no) = _
      rw [h4]
    rw [e]
    exact ⟨a, fd, ps, h1, h2.kp, fn_G (f := f) h2 h3 h5 h6 hx G (smk_glob gl fs k) (fns hx G hf k), h7, h8⟩
end
end DL

namespace DL
open PySem PySem.Spec PyProof.Rows L2

/-! ### the law's end -/
theorem noEsc {P : Program} {w : World} {H : Hp} {s s' : Shared} {e : Value} (h : L2.CX P w [] H s (fun _ _ _ => False) e s') : False := by
  obtain ⟨_, _, _, _, _, _, _, _, _, _, _, _, z⟩ := h
  exact z
/-- the script as the heap's one list -/
def scH (a : Addr) (o : Obj) (vs : List V) : Hp := fun b => if b = a then some (.frz o (.lst vs)) else none
theorem scH_none {a b : Addr} {o : Obj} {vs : List V} (h : b ≠ a) : scH a o vs b = none := if_neg h
theorem scH_at {a : Addr} {o : Obj} {vs : List V} : scH a o vs a = some (.frz o (.lst vs)) := if_pos rfl
theorem scH_inv {a b : Addr} {o : Obj} {vs : List V} {u : HO} (h : scH a o vs b = some u) : b = a ∧ u = .frz o (.lst vs) := by
  by_cases e : b = a
  · subst e
    rw [scH_at] at h
    exact ⟨rfl, (Option.some.inj h).symm⟩
  · rw [scH_none e] at h; cases h
theorem endG {P : Program} {w : World} {K : PySem.W.Frag} {mg mb : Str → Option Value} {k : Nat} {fa a : Addr} {fd : FuncData} {x : Str} {sp : Sp} {s1 : Shared} {vals : List Value} {ns : List Int}
    (hK : K.In s1.heap) (hns : s1.heap.Ns mainGlobals mg) (hmb : s1.heap.Ns builtinsNs mb) (hbb : ∀ x : Str, x ≠ "__name__" → mb x = bootBuiltins x) (hlim : s1.heap.NoLimit) (hgen : s1.gens = #[])
    (ha : s1.heap.get? a = some { cls := .type "list", data := .seq vals.toArray }) (hi : IntsAre vals ns) (hl : ns.length ≤ sizeLine) (hr : Room k callerA) (hno : ∀ b o, K.lookup b = some o → o.cls ≠ .type "list")
    (F : ∀ base : Heap, K.In base → base.Ns mainGlobals mg → FnG P w K mg base (L2.CX P w) k fa fd [x] sp) (hbind : ∀ (s : Shared) (u : Value), BindsTo s fd ⟨[u], []⟩ [(x, u)])
    (hsp : ∀ (H : Hp) (o : Obj), (∀ b, b ≠ a → H b = none) → H a = some (.frz o (.lst (ns.map V.int))) → sp [.ref a] H (fun v _ => v = .bl true) fun _ _ _ => False) :
    codeAny (model P w) callerA (.call (.ref fa) ⟨[.ref a], []⟩) (fun r s' => r = .ok (.ret (.bool true)) ∧ OldK s1.heap s'.heap ∧ s'.os = s1.os ∧ AllBare s'.gens) s1 := by
  have rv := vals_ints hi
  have hKa : K.lookup a = none := by
    cases e : K.lookup a with
    | none => rfl
    | some o =>
      have q := hK a o e
      rw [ha] at q
      cases q
      exact absurd rfl (hno a _ e)
  let O : Obj := { cls := .type "list", data := .seq vals.toArray }
  let H : Hp := scH a O (ns.map V.int)
  have nb : ∀ {b : Addr} {o : Obj}, s1.heap.get? b = some o → b ≠ a → (hidT s1.heap H).get? b = some o := fun e n => hidT_get e (scH_none n)
  have ndict : ∀ {b : Addr} {o : Obj} {es : Array DictEntry} {ep : Nat}, s1.heap.get? b = some o → o.data = .dict es ep → b ≠ a := by
    rintro b o es ep e d rfl
    rw [ha] at e
    cases e
    cases d
  have nsT : ∀ {b : Addr} {m : Str → Option Value}, s1.heap.Ns b m → (hidT s1.heap H).Ns b m := by
    rintro b m ⟨o, es, ep, e, d, r⟩
    exact ⟨o, es, ep, nb e (ndict e d), d, r⟩
  have hKb : K.In (hidT s1.heap H) := fun b o e => nb (hK b o e) (by rintro rfl; rw [hKa] at e; cases e)
  have hlim' : (hidT s1.heap H).NoLimit := by
    obtain ⟨mc, h1, h2⟩ := hlim
    exact ⟨mc, nsT h1, h2⟩
  have hM : Mod K mg (hidT s1.heap H) := ⟨hKb, nsT hns, ⟨mb, nsT hmb, hbb⟩, hlim'⟩
  have hok : HOk P w H s1.heap := by
    intro b u z
    obtain ⟨rfl, rfl⟩ := scH_inv z
    exact ⟨ha, by rw [List.length_map]; exact hl, vals, _, rv, ha⟩
  have e0 : Env0 P w K mg (hidT s1.heap H) callerA [] s1 H :=
    ⟨rfl, hM, fun b o e => of_hidT e, Nat.le_of_eq (hidT_size _ _), trivial, (fun b hb => by
      have hb : b ∈ ([] : List Addr) := hb
      simp at hb), hok, .of_eq hgen⟩
  have go := (F _ hKb (nsT hns)).run callerA [] s1 H ⟨[.ref a], []⟩ [.ref a] [.ref a] (fun v _ => v = .bl true) (fun _ _ _ => False) hr rfl e0 (hbind s1 (.ref a)) (.cons rfl .nil) (hsp H O (fun b n => scH_none n) scH_at)
  refine codeAny_mono go fun r s' h => ?_
  cases r with
  | error e => exact (noEsc h).elim
  | ok fl =>
    cases fl <;> first | (exact False.elim h) | skip
    obtain ⟨v, H', os, bare, un, hok', r', q⟩ := h
    have q : v = .bl true := q
    subst q
    have r' : _ = Value.bool true := r'
    subst r'
    refine ⟨rfl, OldK.of_keep fun b o e => ?_, os, bare⟩
    by_cases hb : b = a
    · subst hb
      have z : H b = some (.frz O (.lst (ns.map V.int))) := scH_at
      have z2 := un.frzs b O _ z
      obtain ⟨e1, _⟩ := hok b _ z
      obtain ⟨e2, _⟩ := hok' b _ z2
      rw [e] at e1; cases e1
      exact e2
    · exact un.keep b o e (scH_none hb) (fun z => by cases z) (by simp)
/-- what the law's promise comes to -/
theorem spD_script {K : PySem.W.Frag} {xr : XRel} {m : List W → Mo W} {H : Hp} {a : Addr} {o : Obj} {ns : List Int} (ho : H a = some (.frz o (.lst (ns.map V.int)))) (h : m [.d (.list (ns.map PyData.int))] [] = some (.ok (.d (.bool true)) [])) :
    spD K xr m [.ref a] H (fun v _ => v = .bl true) fun _ _ _ => False := by
  have ri : ∀ l : List Int, RDs K ⟨[], []⟩ H (l.map PyData.int) (l.map V.int) := by
    intro l
    induction l with
    | nil => exact .nil
    | cons i l ih => exact .cons (.int i) ih
  refine ⟨⟨[], []⟩, [], [.d (.list (ns.map PyData.int))], _, ⟨rfl, .nil, fun j a xs e => by simp at e, fun a h => by cases h⟩, .cons (.lst (.inr ⟨o, ho⟩) (by simp) (by simp) (ri ns)) .nil, h, ?_⟩
  intro μ' H' v st rs rd
  have rd : RD K μ' H' (.bool true) v := rd
  cases rd
  rfl
theorem walkG {l : PySem.W.OpenLaw} {n k : Nat} {q : Program} {loose : List Str} {XP : (Str → Option Value) → Heap → Prop} {YP : World → Heap → Prop} {d : DefRec} {x : Str}
    (hn : l.most = some n) (hn2 : n ≤ sizeLine) (hdf : d.params.defaults = []) (hr : Room k callerA)
    (F : ∀ (w : World) (mg : Str → Option Value) (fa : Addr) (h : Heap), YP w h → h.Ns mainGlobals mg → mg d.name = some (.ref fa) →
      ∃ (K : PySem.W.Frag) (fd : FuncData) (xr : XRel) (m : List W → Mo W), K.In h ∧ (∀ b o, K.lookup b = some o → o.cls ≠ .type "list") ∧ (∀ (s : Shared) (u : Value), BindsTo s fd ⟨[u], []⟩ [(x, u)]) ∧
        (∀ ns : List Int, ns.length ≤ n → (∀ z ∈ ns, Builtin.Int.intBits z ≤ 1048576) → m [.d (.list (ns.map PyData.int))] [] = some (.ok (.d (.bool true)) [])) ∧
        ∀ base : Heap, K.In base → base.Ns mainGlobals mg → FnG l.prog w K mg base (L2.CX l.prog w) k fa fd [x] (spD K xr m)) :
    PySem.W.WalkO q loose XP YP l.row.toRowW d [] (fun f vs => PySem.call f vs) := by
  refine Att.attach_callB hn hdf fun w s0 s1 mg mb fa o pm cd doc a vs ns G Y ho hd hcd hmg hobj hints hlen hbits hg => ?_
  obtain ⟨K, fd, xr, m, hK, hno, hb, hm, hF⟩ := F w mg fa _ Y G.T.g hmg
  exact endG hK G.T.g G.T.b G.T.builtins G.T.nolimit hg hobj hints (Nat.le_trans hlen hn2) hr hno hF hb fun H o _ hS => spD_script hS (hm ns hlen hbits)

/-! ### facts of the head -/
mutual
def gchk (K : PySem.W.Frag) : PyData → Value → Bool
  | .none, u => decide (u = .none)
  | .bool b, u => decide (u = .bool b)
  | .int i, u => match u with
    | .int j _ => decide (j = i)
    | _ => false
  | .str x, u => match u with
    | .str y _ => decide (y = x)
    | _ => false
  | .tuple ds, u => match u with
    | .ref a => (match K.lookup a with
      | some o => decide (o.cls = .type "tuple") && (match o.data with
        | .seq its _ => decide (its.size ≤ 100) && gchks K ds its.toList
        | _ => false)
      | none => false)
    | _ => false
  | _, _ => false
def gchks (K : PySem.W.Frag) : List PyData → List Value → Bool
  | [], us => us.isEmpty
  | d :: ds, us => match us with
    | u :: us => gchk K d u && gchks K ds us
    | [] => false
end
mutual
theorem gchk_ok {K : PySem.W.Frag} : ∀ (d : PyData) (u : Value), gchk K d u = true → ∃ v, RelV v u ∧ ∀ (μ : Mu) (H : Hp), RD K μ H d v
  | .none, u, h => by
    unfold gchk at h
    obtain rfl := of_decide_eq_true h
    exact ⟨.non, rfl, fun _ _ => .non⟩
  | .bool b, u, h => by
    unfold gchk at h
    obtain rfl := of_decide_eq_true h
    exact ⟨.bl b, rfl, fun _ _ => .bl b⟩
  | .int i, u, h => by
    unfold gchk at h
    split at h
    · obtain rfl := of_decide_eq_true h
      exact ⟨.int _, ⟨_, rfl⟩, fun _ _ => .int _⟩
    · cases h
  | .str i, u, h => by
    unfold gchk at h
    split at h
    · obtain rfl := of_decide_eq_true h
      exact ⟨.str _, ⟨_, rfl⟩, fun _ _ => .str _⟩
    · cases h
  | .tuple ds, u, h => by
    unfold gchk at h
    split at h <;> first | (cases h; done) | skip
    rename_i a
    split at h <;> first | (cases h; done) | skip
    rename_i o eo
    rw [Bool.and_eq_true, decide_eq_true_eq] at h
    obtain ⟨h1, h2⟩ := h
    split at h2 <;> first | (cases h2; done) | skip
    rename_i its m em
    rw [Bool.and_eq_true, decide_eq_true_eq] at h2
    obtain ⟨vs, r1, r2⟩ := gchks_ok ds its.toList h2.2
    exact ⟨.ref a, rfl, fun μ H => .tup (.inr ⟨o, its, m, eo, h1, em, by rw [sizeLine_eq]; omega, r1⟩) (r2 μ H)⟩
  | .list _, u, h => by simp [gchk] at h
  | .dict _, u, h => by simp [gchk] at h
theorem gchks_ok {K : PySem.W.Frag} : ∀ (d : List PyData) (u : List Value), gchks K d u = true → ∃ v, Vals v u ∧ ∀ (μ : Mu) (H : Hp), RDs K μ H d v
  | [], us, h => by
    unfold gchks at h
    cases us with
    | nil => exact ⟨[], .nil, fun _ _ => .nil⟩
    | cons => cases h
  | d :: ds, us, h => by
    unfold gchks at h
    cases us with
    | nil => cases h
    | cons u us =>
      simp only [Bool.and_eq_true] at h
      obtain ⟨v, r1, r2⟩ := gchk_ok d u h.1
      obtain ⟨vs, r3, r4⟩ := gchks_ok ds us h.2
      exact ⟨v :: vs, .cons r1 r3, fun μ H => .cons (r2 μ H) (r4 μ H)⟩
end
/-- what is looked at in the written part -/
def okX (T : Tb) (gls : List PyData) (K : PySem.W.Frag) : Bool :=
  K.all (fun p => !decide (p.2.cls = .type "list")) && bltNames.all (fun x => He.eqO (PySem.W.nsIn K mainGlobals x) (some none)) &&
  T.maths.all (fun b => He.eqO (PySem.W.nsIn K mainGlobals (nameB b)) (some (some (valB b)))) &&
  gls.zipIdx.all (fun p => match PySem.W.nsIn K mainGlobals (T.gname p.2) with
    | some (some u) => gchk K p.1 u
    | _ => false) &&
  (List.range T.nf).all (fun f => He.eqO (PySem.W.nsIn K mainGlobals (T.fname f)) (some (some (.ref (He.ga K (T.fname f))))))
theorem lookup_mem {α β : Type} [BEq α] [LawfulBEq α] : ∀ {l : List (α × β)} {a : α} {b : β}, l.lookup a = some b → (a, b) ∈ l
  | (x, y) :: r, a, b, h => by
    unfold List.lookup at h
    split at h
    · rename_i e
      cases h
      have : a = x := by simpa using e
      subst this
      exact List.mem_cons_self
    · exact List.mem_cons_of_mem _ (lookup_mem h)
theorem okX_no {T : Tb} {gls : List PyData} {K : PySem.W.Frag} (h : okX T gls K = true) : ∀ b o, K.lookup b = some o → o.cls ≠ .type "list" := fun b o e => by
  unfold okX at h
  simp only [Bool.and_eq_true, List.all_eq_true] at h
  simpa using h.1.1.1.1 (b, o) (lookup_mem e)
theorem okX_fn {T : Tb} {gls : List PyData} {K : PySem.W.Frag} {h : Heap} {mg : Str → Option Value} (X : K.In h) (G : h.Ns mainGlobals mg) (c : okX T gls K = true) {f : Nat} (hf : f < T.nf) : mg (T.fname f) = some (.ref (He.ga K (T.fname f))) := by
  unfold okX at c
  simp only [Bool.and_eq_true, List.all_eq_true] at c
  exact PySem.W.mg_of X G (He.eqO_ok (c.2 f (by simpa using hf)))
theorem okX_glo {T : Tb} {gls : List PyData} {K : PySem.W.Frag} {h : Heap} {mg : Str → Option Value} (X : K.In h) (G : h.Ns mainGlobals mg) (c : okX T gls K = true) : Glo K mg T (fun i => gls[i]?) := by
  unfold okX at c
  simp only [Bool.and_eq_true, List.all_eq_true] at c
  obtain ⟨⟨⟨⟨c1, c2⟩, c3⟩, c4⟩, c5⟩ := c
  refine ⟨fun g x e => ?_, fun x hx => PySem.W.mg_none_of X G (He.eqO_ok (c2 x hx)), fun b hb _ => PySem.W.mg_of X G (He.eqO_ok (c3 b hb))⟩
  have := c4 (x, g) (List.mem_zipIdx_iff_getElem?.mpr (by simpa using e))
  dsimp only at this
  split at this
  · rename_i u eu
    obtain ⟨v, r1, r2⟩ := gchk_ok x u this
    exact ⟨u, v, PySem.W.mg_of X G eu, r1, fun μ H _ => r2 μ H⟩
  · cases this
/-- the hook: an address list, the look, the defs -/
def hookD (as : List Addr) (T : Tb) (gls : List PyData) (fn : List He.DefD) : PySem.W.Hook where
  α := Bool × He.AlD
  obs := fun s => (okX T gls (He.frG s.heap.get? as), He.obsD [] fn (He.frG s.heap.get? as))
  val := fun _ => (true, He.valD fn)
  says := fun _ h => ∃ K : PySem.W.Frag, K.In h ∧ okX T gls K = true ∧ He.SaysD [] fn K
  of := fun _ _ e => ⟨_, He.frG_in, congrArg Prod.fst e, congrArg Prod.snd e⟩
  keeps := fun _ _ _ ⟨K, hK, c⟩ k => ⟨K, PySem.W.Frag.In.keeps hK k, c⟩
def obD (as : List Addr) (T : Tb) (gls : List PyData) (fn : List He.DefD) (s : PySem.W.SharedT) : Bool × He.AlD :=
  (okX T gls (He.frG (HandSHeadRun.getT s) as), He.obsD [] fn (He.frG (HandSHeadRun.getT s) as))
theorem obD_eq (as : List Addr) (T : Tb) (gls : List PyData) (fn : List He.DefD) (s : PySem.W.SharedT) : obD as T gls fn s = (hookD as T gls fn).obs s.abs := by
  have e : HandSHeadRun.getT s = s.abs.heap.get? := funext (HandSHeadRun.getT_eq s)
  show (okX T gls (He.frG (HandSHeadRun.getT s) as), He.obsD [] fn (He.frG (HandSHeadRun.getT s) as)) = _
  rw [e]
  rfl
/-- a look at a def's scope -/
def scOk (N ps : List Str) (sc : Scope) : Bool := fnK ⟨N, sc, none⟩ && (!sc.isCoroutine && !sc.isGenerator) && (decide N.Nodup && decide (N.take ps.length = ps)) && (ps.all fun x => decide (sc.names.lookup x = some .local) || decide (sc.names.lookup x = some .cell)) && sc.names.all fun y => decide (y.2 ≠ .free)
theorem scope_by {N ps : List Str} {sc : Scope} (h : scOk N ps sc = true) : FnScope N ps sc := by
  unfold scOk fnK at h
  simp only [Bool.and_eq_true, Bool.or_eq_true, Bool.not_eq_true', List.all_eq_true, decide_eq_true_eq] at h
  obtain ⟨⟨⟨⟨h1, h2, h3⟩, h4, h5⟩, h6⟩, h7⟩ := h
  refine ⟨?_, h2, h3, h4, h5, h6, h7⟩
  split at h1
  · assumption
  · cases h1
/-- how keywords bind -/
theorem kwTo_of {K : PySem.W.Frag} {x qual : Str} {params : Arguments} {body : List Stmt} {scope : Scope} {kws : List (Str × V)} {f : Addr} {fd : FuncData} {ps ks : List Str} {n : Nat} {pm : List Nat} (F : FunD K x qual params body scope [] kws f fd)
    (h : ∀ (kV doc pmv : Value) (an : Option Addr) (cdv ct : Value) (us ws vs : List Value), us.length = n → ws.length = ks.length → pm.mapM (fun i => (us ++ ws)[i]?) = some vs → bindArgs (PySem.W.fnOf x qual params body scope .none kV doc pmv an cdv ct) ⟨us, ks.zip ws⟩ = pure (ps.zip vs)) : KwTo K fd ps n ks pm := by
  obtain ⟨oc, od, dV, kV, doc, pmv, an, cdv, ct, osl, rfl, lk, hcd, hD, hK⟩ := F.ex
  intro s us ws vs _ l1 l2 e
  rcases hD with ⟨_, rfl⟩ | ⟨e, _⟩
  · exact .of_eq (h kV doc pmv an cdv ct us ws vs l1 l2 e)
  · exact absurd rfl e
end DL

namespace DL
open PySem PySem.Spec PyProof.Rows L2

/-! ### running by simp: each step's rest is a name of its own -/
section
variable {α β : Type} {Γ : Sm} {ρ : Env'}
@[simp] theorem bnd_re_ (x : α) (f : α → Mo β) : bnd (re x) f = f x := rfl
@[simp] theorem bnd_no_ (f : α → Mo β) : bnd (no : Mo α) f = no := rfl
@[simp] theorem bnd_ite_ (c : Prop) [Decidable c] (a b : Mo α) (f : α → Mo β) : bnd (if c then a else b) f = if c then bnd a f else bnd b f := by
  split <;> rfl
@[simp] theorem lift_some_ (x : α) : lift (some x) = re x := rfl
@[simp] theorem lift_none_ : (lift none : Mo α) = no := rfl
@[simp] theorem asD_d_ (x : PyData) : asD (.d x) = re x := rfl
@[simp] theorem onD_d_ (x : PyData) : onD (.d x) = re x := rfl
@[simp] theorem truthB_ (b : Bool) : truthB (.d (.bool b)) = re b := rfl
def liftW (o : Option PyData) : Mo W := bnd (lift o) fun z => re (.d z)
@[simp] theorem liftW_some (z : PyData) : liftW (some z) = re (.d z) := rfl
@[simp] theorem liftW_none : liftW none = no := rfl
def liftB (o : Option Bool) : Mo W := bnd (lift o) fun z => re (.d (.bool z))
@[simp] theorem liftB_some (z : Bool) : liftB (some z) = re (.d (.bool z)) := rfl
@[simp] theorem liftB_none : liftB none = no := rfl
def gt : Env' → Nat → Mo W
  | [], _ => no
  | o :: _, 0 => (match o with
    | some w => re w
    | none => no)
  | _ :: ρ, n + 1 => gt ρ n
@[simp] theorem gt_0 (w : W) (ρ : Env') : gt (some w :: ρ) 0 = re w := rfl
@[simp] theorem gt_s (o : Option W) (ρ : Env') (n : Nat) : gt (o :: ρ) (n + 1) = gt ρ n := rfl
@[simp] theorem ev_var (i : Nat) : evE Γ (.var i) ρ = gt ρ i := by
  funext S
  rw [evE]
  induction ρ generalizing i with
  | nil => rfl
  | cons o ρ ih =>
    cases i with
    | zero => cases o <;> rfl
    | succ n => exact ih n
@[simp] theorem ev_cI (i : Int) : evE Γ (.cI i) ρ = re (.d (.int i)) := by rw [evE]
@[simp] theorem ev_cB (i : Bool) : evE Γ (.cB i) ρ = re (.d (.bool i)) := by rw [evE]
@[simp] theorem ev_cN : evE Γ (.cN) ρ = re (.d .none) := by rw [evE]
@[simp] theorem ev_cS (i : Str) : evE Γ (.cS i) ρ = re (.d (.str i)) := by rw [evE]
@[simp] theorem ev_glo (g : Nat) : evE Γ (.glo g) ρ = liftW (Γ.glob g) := by rw [evE]; rfl
def opW (o : O2) (x y : W) : Mo W := bnd (asD x) fun dx => bnd (asD y) fun dy => bnd (lift (o2 o dx dy)) fun z => re (.d z)
@[simp] theorem opW_d (o : O2) (x y : PyData) : opW o (.d x) (.d y) = liftW (o2 o x y) := rfl
noncomputable def kBin (Γ : Sm) (o : O2) (b : Ex) (ρ : Env') (x : W) : Mo W := bnd (evE Γ b ρ) (opW o x)
@[simp] theorem kBin_ (o : O2) (b : Ex) (x : W) : kBin Γ o b ρ x = bnd (evE Γ b ρ) (opW o x) := rfl
@[simp] theorem ev_bin (o : O2) (a b : Ex) : evE Γ (.bin o a b) ρ = bnd (evE Γ a ρ) (kBin Γ o b ρ) := by rw [evE]; rfl
def cmW (o : C2) (x y : W) : Mo W := bnd (asD x) fun dx => bnd (asD y) fun dy => bnd (lift (c2 o dx dy)) fun z => re (.d (.bool z))
@[simp] theorem cmW_d (o : C2) (x y : PyData) : cmW o (.d x) (.d y) = liftB (c2 o x y) := rfl
noncomputable def kCmp (Γ : Sm) (o : C2) (b : Ex) (ρ : Env') (x : W) : Mo W := bnd (evE Γ b ρ) (cmW o x)
@[simp] theorem kCmp_ (o : C2) (b : Ex) (x : W) : kCmp Γ o b ρ x = bnd (evE Γ b ρ) (cmW o x) := rfl
@[simp] theorem ev_cmp (o : C2) (a b : Ex) : evE Γ (.cmp o a b) ρ = bnd (evE Γ a ρ) (kCmp Γ o b ρ) := by rw [evE]; rfl
noncomputable def kChn3 (Γ : Sm) (o' : C2) (c : Ex) (ρ : Env') (y : W) (k : Bool) : Mo W := if k = true then bnd (evE Γ c ρ) (cmW o' y) else re (.d (.bool false))
@[simp] theorem kChn3_ (o' : C2) (c : Ex) (y : W) (k : Bool) : kChn3 Γ o' c ρ y k = if k = true then bnd (evE Γ c ρ) (cmW o' y) else re (.d (.bool false)) := rfl
noncomputable def kChn2 (Γ : Sm) (o o' : C2) (c : Ex) (ρ : Env') (x y : W) : Mo W := bnd (asD x) fun dx => bnd (asD y) fun dy => bnd (lift (c2 o dx dy)) (kChn3 Γ o' c ρ y)
@[simp] theorem kChn2_ (o o' : C2) (c : Ex) (x y : PyData) : kChn2 Γ o o' c ρ (.d x) (.d y) = bnd (lift (c2 o x y)) (kChn3 Γ o' c ρ (.d y)) := rfl
noncomputable def kChn (Γ : Sm) (o o' : C2) (b c : Ex) (ρ : Env') (x : W) : Mo W := bnd (evE Γ b ρ) (kChn2 Γ o o' c ρ x)
@[simp] theorem kChn_ (o o' : C2) (b c : Ex) (x : W) : kChn Γ o o' b c ρ x = bnd (evE Γ b ρ) (kChn2 Γ o o' c ρ x) := rfl
@[simp] theorem ev_chn (o o' : C2) (a b c : Ex) : evE Γ (.chn o o' a b c) ρ = bnd (evE Γ a ρ) (kChn Γ o o' b c ρ) := by rw [evE]; rfl
def negW (x : W) : Mo W := match x with
    | .d (.int i) => re (.d (.int (-i)))
    | _ => no
@[simp] theorem negW_ (i : Int) : negW (.d (.int i)) = re (.d (.int (-i))) := rfl
@[simp] theorem ev_neg (a : Ex) : evE Γ (.neg a) ρ = bnd (evE Γ a ρ) negW := by rw [evE]; rfl
def tst (f : Bool → Mo α) (x : W) : Mo α := bnd (truthB x) f
@[simp] theorem tst_ (f : Bool → Mo α) (b : Bool) : tst f (.d (.bool b)) = f b := rfl
noncomputable def kAnd (Γ : Sm) (es : List Ex) (ρ : Env') (k : Bool) : Mo W := if k = true then andE Γ es ρ else re (.d (.bool false))
@[simp] theorem kAnd_ (es : List Ex) (k : Bool) : kAnd Γ es ρ k = if k = true then andE Γ es ρ else re (.d (.bool false)) := rfl
noncomputable def kOr (Γ : Sm) (es : List Ex) (ρ : Env') (k : Bool) : Mo W := if k = true then re (.d (.bool true)) else orE Γ es ρ
@[simp] theorem kOr_ (es : List Ex) (k : Bool) : kOr Γ es ρ k = if k = true then re (.d (.bool true)) else orE Γ es ρ := rfl
@[simp] theorem ev_and (es : List Ex) : evE Γ (.and es) ρ = andE Γ es ρ := by rw [evE]
@[simp] theorem ev_or (es : List Ex) : evE Γ (.or es) ρ = orE Γ es ρ := by rw [evE]
@[simp] theorem and_one (e : Ex) : andE Γ [e] ρ = evE Γ e ρ := by rw [andE]
@[simp] theorem and_two (e e' : Ex) (es : List Ex) : andE Γ (e :: e' :: es) ρ = bnd (evE Γ e ρ) (tst (kAnd Γ (e' :: es) ρ)) := by rw [andE]; rfl
@[simp] theorem or_one (e : Ex) : orE Γ [e] ρ = evE Γ e ρ := by rw [orE]
@[simp] theorem or_two (e e' : Ex) (es : List Ex) : orE Γ (e :: e' :: es) ρ = bnd (evE Γ e ρ) (tst (kOr Γ (e' :: es) ρ)) := by rw [orE]; rfl
def kNot (k : Bool) : Mo W := re (.d (.bool (!k)))
@[simp] theorem kNot_ (k : Bool) : kNot k = re (.d (.bool (!k))) := rfl
@[simp] theorem ev_not (a : Ex) : evE Γ (.not a) ρ = bnd (evE Γ a ρ) (tst kNot) := by rw [evE]; rfl
noncomputable def kIte (Γ : Sm) (a b : Ex) (ρ : Env') (k : Bool) : Mo W := if k = true then evE Γ a ρ else evE Γ b ρ
@[simp] theorem kIte_ (a b : Ex) (k : Bool) : kIte Γ a b ρ k = if k = true then evE Γ a ρ else evE Γ b ρ := rfl
@[simp] theorem ev_ite (t a b : Ex) : evE Γ (.ite t a b) ρ = bnd (evE Γ t ρ) (tst (kIte Γ a b ρ)) := by rw [evE]; rfl
def mkT (ws : List W) : Mo W := bnd (onDs ws) fun xs => if xs.length ≤ LIM then re (.d (.tuple xs)) else no
def mkL (ws : List W) : Mo W := bnd (onDs ws) fun xs => if xs.length ≤ LIM then re (.d (.list xs)) else no
def newL (xs : List PyData) : Mo W := fun S => some (.ok (.l S.length) (S ++ [xs]))
def mkN (ws : List W) : Mo W := bnd (onDs ws) fun xs => if xs.length ≤ LIM then newL xs else no
theorem onDs_map (xs : List PyData) : onDs (xs.map W.d) = re xs := by
  induction xs with
  | nil => rfl
  | cons x xs ih =>
    show (bnd (onD (.d x)) fun x => bnd (onDs (xs.map W.d)) fun xs => re (x :: xs)) = _
    rw [ih]; rfl
theorem asDs_map (xs : List PyData) : asDs (xs.map W.d) = re xs := by
  induction xs with
  | nil => rfl
  | cons x xs ih =>
    show (bnd (asD (.d x)) fun x => bnd (asDs (xs.map W.d)) fun xs => re (x :: xs)) = _
    rw [ih]; rfl
theorem mkT_map (xs : List PyData) (h : xs.length ≤ LIM) : mkT (xs.map W.d) = re (.d (.tuple xs)) := by
  unfold mkT
  rw [onDs_map]
  show (if xs.length ≤ LIM then _ else _) = _
  rw [if_pos h]
theorem mkL_map (xs : List PyData) (h : xs.length ≤ LIM) : mkL (xs.map W.d) = re (.d (.list xs)) := by
  unfold mkL
  rw [onDs_map]
  show (if xs.length ≤ LIM then _ else _) = _
  rw [if_pos h]
theorem mkN_map (xs : List PyData) (h : xs.length ≤ LIM) : mkN (xs.map W.d) = newL xs := by
  unfold mkN
  rw [onDs_map]
  show (if xs.length ≤ LIM then _ else _) = _
  rw [if_pos h]
@[simp] theorem mkT_0 : mkT [] = re (.d (.tuple [])) := mkT_map [] (by show 0 ≤ 100000; decide)
@[simp] theorem mkL_0 : mkL [] = re (.d (.list [])) := mkL_map [] (by show 0 ≤ 100000; decide)
@[simp] theorem mkN_0 : mkN [] = newL [] := mkN_map [] (by show 0 ≤ 100000; decide)
@[simp] theorem mkT_1 (x0 : PyData) : mkT [.d x0] = re (.d (.tuple [x0])) := mkT_map [x0] (by show 1 ≤ 100000; decide)
@[simp] theorem mkL_1 (x0 : PyData) : mkL [.d x0] = re (.d (.list [x0])) := mkL_map [x0] (by show 1 ≤ 100000; decide)
@[simp] theorem mkN_1 (x0 : PyData) : mkN [.d x0] = newL [x0] := mkN_map [x0] (by show 1 ≤ 100000; decide)
@[simp] theorem mkT_2 (x0 x1 : PyData) : mkT [.d x0, .d x1] = re (.d (.tuple [x0, x1])) := mkT_map [x0, x1] (by show 2 ≤ 100000; decide)
@[simp] theorem mkL_2 (x0 x1 : PyData) : mkL [.d x0, .d x1] = re (.d (.list [x0, x1])) := mkL_map [x0, x1] (by show 2 ≤ 100000; decide)
@[simp] theorem mkN_2 (x0 x1 : PyData) : mkN [.d x0, .d x1] = newL [x0, x1] := mkN_map [x0, x1] (by show 2 ≤ 100000; decide)
@[simp] theorem mkT_3 (x0 x1 x2 : PyData) : mkT [.d x0, .d x1, .d x2] = re (.d (.tuple [x0, x1, x2])) := mkT_map [x0, x1, x2] (by show 3 ≤ 100000; decide)
@[simp] theorem mkL_3 (x0 x1 x2 : PyData) : mkL [.d x0, .d x1, .d x2] = re (.d (.list [x0, x1, x2])) := mkL_map [x0, x1, x2] (by show 3 ≤ 100000; decide)
@[simp] theorem mkN_3 (x0 x1 x2 : PyData) : mkN [.d x0, .d x1, .d x2] = newL [x0, x1, x2] := mkN_map [x0, x1, x2] (by show 3 ≤ 100000; decide)
@[simp] theorem mkT_4 (x0 x1 x2 x3 : PyData) : mkT [.d x0, .d x1, .d x2, .d x3] = re (.d (.tuple [x0, x1, x2, x3])) := mkT_map [x0, x1, x2, x3] (by show 4 ≤ 100000; decide)
@[simp] theorem mkL_4 (x0 x1 x2 x3 : PyData) : mkL [.d x0, .d x1, .d x2, .d x3] = re (.d (.list [x0, x1, x2, x3])) := mkL_map [x0, x1, x2, x3] (by show 4 ≤ 100000; decide)
@[simp] theorem mkN_4 (x0 x1 x2 x3 : PyData) : mkN [.d x0, .d x1, .d x2, .d x3] = newL [x0, x1, x2, x3] := mkN_map [x0, x1, x2, x3] (by show 4 ≤ 100000; decide)
@[simp] theorem mkT_5 (x0 x1 x2 x3 x4 : PyData) : mkT [.d x0, .d x1, .d x2, .d x3, .d x4] = re (.d (.tuple [x0, x1, x2, x3, x4])) := mkT_map [x0, x1, x2, x3, x4] (by show 5 ≤ 100000; decide)
@[simp] theorem mkL_5 (x0 x1 x2 x3 x4 : PyData) : mkL [.d x0, .d x1, .d x2, .d x3, .d x4] = re (.d (.list [x0, x1, x2, x3, x4])) := mkL_map [x0, x1, x2, x3, x4] (by show 5 ≤ 100000; decide)
@[simp] theorem mkN_5 (x0 x1 x2 x3 x4 : PyData) : mkN [.d x0, .d x1, .d x2, .d x3, .d x4] = newL [x0, x1, x2, x3, x4] := mkN_map [x0, x1, x2, x3, x4] (by show 5 ≤ 100000; decide)
@[simp] theorem mkT_6 (x0 x1 x2 x3 x4 x5 : PyData) : mkT [.d x0, .d x1, .d x2, .d x3, .d x4, .d x5] = re (.d (.tuple [x0, x1, x2, x3, x4, x5])) := mkT_map [x0, x1, x2, x3, x4, x5] (by show 6 ≤ 100000; decide)
@[simp] theorem mkL_6 (x0 x1 x2 x3 x4 x5 : PyData) : mkL [.d x0, .d x1, .d x2, .d x3, .d x4, .d x5] = re (.d (.list [x0, x1, x2, x3, x4, x5])) := mkL_map [x0, x1, x2, x3, x4, x5] (by show 6 ≤ 100000; decide)
@[simp] theorem mkN_6 (x0 x1 x2 x3 x4 x5 : PyData) : mkN [.d x0, .d x1, .d x2, .d x3, .d x4, .d x5] = newL [x0, x1, x2, x3, x4, x5] := mkN_map [x0, x1, x2, x3, x4, x5] (by show 6 ≤ 100000; decide)
@[simp] theorem mkT_7 (x0 x1 x2 x3 x4 x5 x6 : PyData) : mkT [.d x0, .d x1, .d x2, .d x3, .d x4, .d x5, .d x6] = re (.d (.tuple [x0, x1, x2, x3, x4, x5, x6])) := mkT_map [x0, x1, x2, x3, x4, x5, x6] (by show 7 ≤ 100000; decide)
@[simp] theorem mkL_7 (x0 x1 x2 x3 x4 x5 x6 : PyData) : mkL [.d x0, .d x1, .d x2, .d x3, .d x4, .d x5, .d x6] = re (.d (.list [x0, x1, x2, x3, x4, x5, x6])) := mkL_map [x0, x1, x2, x3, x4, x5, x6] (by show 7 ≤ 100000; decide)
@[simp] theorem mkN_7 (x0 x1 x2 x3 x4 x5 x6 : PyData) : mkN [.d x0, .d x1, .d x2, .d x3, .d x4, .d x5, .d x6] = newL [x0, x1, x2, x3, x4, x5, x6] := mkN_map [x0, x1, x2, x3, x4, x5, x6] (by show 7 ≤ 100000; decide)
@[simp] theorem mkT_8 (x0 x1 x2 x3 x4 x5 x6 x7 : PyData) : mkT [.d x0, .d x1, .d x2, .d x3, .d x4, .d x5, .d x6, .d x7] = re (.d (.tuple [x0, x1, x2, x3, x4, x5, x6, x7])) := mkT_map [x0, x1, x2, x3, x4, x5, x6, x7] (by show 8 ≤ 100000; decide)
@[simp] theorem mkL_8 (x0 x1 x2 x3 x4 x5 x6 x7 : PyData) : mkL [.d x0, .d x1, .d x2, .d x3, .d x4, .d x5, .d x6, .d x7] = re (.d (.list [x0, x1, x2, x3, x4, x5, x6, x7])) := mkL_map [x0, x1, x2, x3, x4, x5, x6, x7] (by show 8 ≤ 100000; decide)
@[simp] theorem mkN_8 (x0 x1 x2 x3 x4 x5 x6 x7 : PyData) : mkN [.d x0, .d x1, .d x2, .d x3, .d x4, .d x5, .d x6, .d x7] = newL [x0, x1, x2, x3, x4, x5, x6, x7] := mkN_map [x0, x1, x2, x3, x4, x5, x6, x7] (by show 8 ≤ 100000; decide)
@[simp] theorem mkT_9 (x0 x1 x2 x3 x4 x5 x6 x7 x8 : PyData) : mkT [.d x0, .d x1, .d x2, .d x3, .d x4, .d x5, .d x6, .d x7, .d x8] = re (.d (.tuple [x0, x1, x2, x3, x4, x5, x6, x7, x8])) := mkT_map [x0, x1, x2, x3, x4, x5, x6, x7, x8] (by show 9 ≤ 100000; decide)
@[simp] theorem mkL_9 (x0 x1 x2 x3 x4 x5 x6 x7 x8 : PyData) : mkL [.d x0, .d x1, .d x2, .d x3, .d x4, .d x5, .d x6, .d x7, .d x8] = re (.d (.list [x0, x1, x2, x3, x4, x5, x6, x7, x8])) := mkL_map [x0, x1, x2, x3, x4, x5, x6, x7, x8] (by show 9 ≤ 100000; decide)
@[simp] theorem mkN_9 (x0 x1 x2 x3 x4 x5 x6 x7 x8 : PyData) : mkN [.d x0, .d x1, .d x2, .d x3, .d x4, .d x5, .d x6, .d x7, .d x8] = newL [x0, x1, x2, x3, x4, x5, x6, x7, x8] := mkN_map [x0, x1, x2, x3, x4, x5, x6, x7, x8] (by show 9 ≤ 100000; decide)
@[simp] theorem ev_tup (es : List Ex) : evE Γ (.tup es) ρ = bnd (evEs Γ es ρ) mkT := by rw [evE]; rfl
@[simp] theorem ev_lst (es : List Ex) : evE Γ (.lst es) ρ = bnd (evEs Γ es ρ) mkL := by rw [evE]; rfl
@[simp] theorem ev_lstL (es : List Ex) : evE Γ (.lstL es) ρ = bnd (evEs Γ es ρ) mkN := by rw [evE]; rfl
def ixW (x y : W) : Mo W := bnd (asD x) fun dx => bnd (onD y) fun dy => bnd (lift (atD dx dy)) fun z => re (.d z)
@[simp] theorem ixW_ (x y : PyData) : ixW (.d x) (.d y) = liftW (atD x y) := rfl
noncomputable def kIdx (Γ : Sm) (i : Ex) (ρ : Env') (x : W) : Mo W := bnd (evE Γ i ρ) (ixW x)
@[simp] theorem kIdx_ (i : Ex) (x : W) : kIdx Γ i ρ x = bnd (evE Γ i ρ) (ixW x) := rfl
@[simp] theorem ev_idx (a i : Ex) : evE Γ (.idx a i) ρ = bnd (evE Γ a ρ) (kIdx Γ i ρ) := by rw [evE]; rfl
def slW (x : W) (p q : Option Int) : Mo W := bnd (asD x) fun dx => bnd (lift (slD dx p q)) fun z => re (.d z)
@[simp] theorem slW_ (x : PyData) (p q : Option Int) : slW (.d x) p q = liftW (slD x p q) := rfl
noncomputable def kSl2 (Γ : Sm) (h : Bool) (hi : Ex) (ρ : Env') (x : W) (p : Option Int) : Mo W := bnd (partO h (evE Γ hi ρ)) (slW x p)
@[simp] theorem kSl2_ (h : Bool) (hi : Ex) (x : W) (p : Option Int) : kSl2 Γ h hi ρ x p = bnd (partO h (evE Γ hi ρ)) (slW x p) := rfl
noncomputable def kSl (Γ : Sm) (l : Bool) (lo : Ex) (h : Bool) (hi : Ex) (ρ : Env') (x : W) : Mo W := bnd (partO l (evE Γ lo ρ)) (kSl2 Γ h hi ρ x)
@[simp] theorem kSl_ (l : Bool) (lo : Ex) (h : Bool) (hi : Ex) (x : W) : kSl Γ l lo h hi ρ x = bnd (partO l (evE Γ lo ρ)) (kSl2 Γ h hi ρ x) := rfl
@[simp] theorem ev_slc (a : Ex) (l : Bool) (lo : Ex) (h : Bool) (hi : Ex) : evE Γ (.slc a l lo h hi) ρ = bnd (evE Γ a ρ) (kSl Γ l lo h hi ρ) := by rw [evE]; rfl
def isW' (T : String) (x : W) : Mo W := bnd (asD x) fun dx => bnd (lift (kitB (tyOf dx) T)) fun k => re (.d (.bool k))
@[simp] theorem isW'_ (T : String) (x : PyData) : isW' T (.d x) = liftB (kitB (tyOf x) T) := rfl
@[simp] theorem ev_isi (T : String) (a : Ex) : evE Γ (.isi T a) ρ = bnd (evE Γ a ρ) (isW' T) := by rw [evE]; rfl
noncomputable def blW (b : B1) (ws : List W) : Mo W := bnd (asDs ws) fun xs => bnd (lift (b1 b xs)) fun z => re (.d z)
@[simp] theorem blW_1 (b : B1) (x : PyData) : blW b [.d x] = liftW (b1 b [x]) := rfl
@[simp] theorem blW_2 (b : B1) (x y : PyData) : blW b [.d x, .d y] = liftW (b1 b [x, y]) := rfl
@[simp] theorem ev_blt (b : B1) (es : List Ex) : evE Γ (.blt b es) ρ = bnd (evEs Γ es ρ) (blW b) := by rw [evE]; rfl
def rpW (x : W) : Mo W := bnd (asD x) fun dx => if reprOk dx = true then re (.d (.str dx.shown)) else no
@[simp] theorem rpW_ (x : PyData) : rpW (.d x) = if reprOk x = true then re (.d (.str x.shown)) else no := rfl
@[simp] theorem ev_rpr (a : Ex) : evE Γ (.rpr a) ρ = bnd (evE Γ a ρ) rpW := by rw [evE]; rfl
@[simp] theorem ev_call (f : Nat) (es : List Ex) : evE Γ (.call f es) ρ = bnd (evEs Γ es ρ) (Γ.call f) := by rw [evE]
noncomputable def kPerm (Γ : Sm) (f : Nat) (perm : List Nat) (ws : List W) : Mo W := bnd (lift (permW ws perm)) (Γ.call f)
@[simp] theorem kPerm_ (f : Nat) (perm : List Nat) (ws : List W) : kPerm Γ f perm ws = bnd (lift (permW ws perm)) (Γ.call f) := rfl
@[simp] theorem ev_callK (f n : Nat) (perm : List Nat) (es : List Ex) : evE Γ (.callK f n perm es) ρ = bnd (evEs Γ es ρ) (kPerm Γ f perm) := by rw [evE]; rfl
@[simp] theorem evs_nil : evEs Γ [] ρ = re [] := by rw [evEs]
def kCons (w : W) (ws : List W) : Mo (List W) := re (w :: ws)
@[simp] theorem kCons_ (w : W) (ws : List W) : kCons w ws = re (w :: ws) := rfl
noncomputable def kArgs (Γ : Sm) (es : List Ex) (ρ : Env') (w : W) : Mo (List W) := bnd (evEs Γ es ρ) (kCons w)
@[simp] theorem kArgs_ (es : List Ex) (w : W) : kArgs Γ es ρ w = bnd (evEs Γ es ρ) (kCons w) := rfl
@[simp] theorem evs_cons (e : Ex) (es : List Ex) : evEs Γ (e :: es) ρ = bnd (evE Γ e ρ) (kArgs Γ es ρ) := by rw [evEs]; rfl
@[simp] theorem cnd_nil : cndE Γ [] ρ = re true := by rw [cndE]
noncomputable def kCnd (Γ : Sm) (cs : List Ex) (ρ : Env') (k : Bool) : Mo Bool := if k = true then cndE Γ cs ρ else re false
@[simp] theorem kCnd_ (cs : List Ex) (k : Bool) : kCnd Γ cs ρ k = if k = true then cndE Γ cs ρ else re false := rfl
@[simp] theorem cnd_cons (c : Ex) (cs : List Ex) : cndE Γ (c :: cs) ρ = bnd (evE Γ c ρ) (tst (kCnd Γ cs ρ)) := by rw [cndE]; rfl
def toO (x : W) : Mo (Option Int) := match x with
  | .d (.int i) => re (some i)
  | _ => no
@[simp] theorem toO_ (i : Int) : toO (.d (.int i)) = re (some i) := rfl
@[simp] theorem partO_t (m : Mo W) : partO true m = bnd m toO := rfl
@[simp] theorem partO_f (m : Mo W) : partO false m = re none := rfl
/-! ### targets -/
@[simp] theorem asg_nm (i : Nat) (x : PyData) : asg (.nm i) x ρ = re (ρ.set i (some (.d x))) := by rw [asg]
@[simp] theorem asg_tp (ps : List Pat) (xs : List PyData) : asg (.tp ps) (.tuple xs) ρ = asgs ps xs ρ := by rw [asg]
@[simp] theorem asg_tpL (ps : List Pat) (xs : List PyData) : asg (.tp ps) (.list xs) ρ = asgs ps xs ρ := by rw [asg]
@[simp] theorem asgs_nil : asgs [] [] ρ = re ρ := by rw [asgs]
def kAsgs (ps : List Pat) (xs : List PyData) (ρ' : Env') : Mo Env' := asgs ps xs ρ'
@[simp] theorem kAsgs_ (ps : List Pat) (xs : List PyData) : kAsgs ps xs ρ = asgs ps xs ρ := rfl
@[simp] theorem asgs_cons (p : Pat) (ps : List Pat) (x : PyData) (xs : List PyData) : asgs (p :: ps) (x :: xs) ρ = bnd (asg p x ρ) (kAsgs ps xs) := by rw [asgs]; rfl
/-! ### statements -/
def kSet (ρ : Env') (i : Nat) (w : W) : Mo Fl := re (.nx (ρ.set i (some w)))
@[simp] theorem kSet_ (i : Nat) (w : W) : kSet ρ i w = re (.nx (ρ.set i (some w))) := rfl
@[simp] theorem ex_set (i : Nat) (e : Ex) : exS Γ (.set i e) ρ = bnd (evE Γ e ρ) (kSet ρ i) := by rw [exS]; rfl
@[simp] theorem ex_setC (i : Nat) (e : Ex) : exS Γ (.setC i e) ρ = bnd (evE Γ e ρ) (kSet ρ i) := by rw [exS]; rfl
def kNx (ρ' : Env') : Mo Fl := re (.nx ρ')
@[simp] theorem kNx_ : kNx ρ = re (.nx ρ) := rfl
def kAsg (p : Pat) (ρ : Env') (w : W) : Mo Fl := bnd (onD w) fun d => bnd (asg p d ρ) kNx
@[simp] theorem kAsg_ (p : Pat) (d : PyData) : kAsg p ρ (.d d) = bnd (asg p d ρ) kNx := rfl
@[simp] theorem ex_asgn (p : Pat) (e : Ex) : exS Γ (.asgn p e) ρ = bnd (evE Γ e ρ) (kAsg p ρ) := by rw [exS]; rfl
def kPar (is : List Nat) (ρ : Env') (ws : List W) : Mo Fl := bnd (lift (setAll ρ is ws)) kNx
@[simp] theorem kPar_2 (i j : Nat) (a b : W) : kPar [i, j] ρ [a, b] = re (.nx ((ρ.set i (some a)).set j (some b))) := rfl
@[simp] theorem kPar_3 (i j k : Nat) (a b c : W) : kPar [i, j, k] ρ [a, b, c] = re (.nx (((ρ.set i (some a)).set j (some b)).set k (some c))) := rfl
@[simp] theorem ex_par (is : List Nat) (es : List Ex) : exS Γ (.par is es) ρ = bnd (evEs Γ es ρ) (kPar is ρ) := by rw [exS]; rfl
def kExp (ρ : Env') (_ : W) : Mo Fl := re (.nx ρ)
@[simp] theorem kExp_ (w : W) : kExp ρ w = re (.nx ρ) := rfl
@[simp] theorem ex_exp (e : Ex) : exS Γ (.exp e) ρ = bnd (evE Γ e ρ) (kExp ρ) := by rw [exS]; rfl
@[simp] theorem ex_doc : exS Γ .doc ρ = re (.nx ρ) := by rw [exS]
noncomputable def kIff (Γ : Sm) (a b : List Sx) (ρ : Env') (k : Bool) : Mo Fl := if k = true then exSs Γ a ρ else exSs Γ b ρ
@[simp] theorem kIff_ (a b : List Sx) (k : Bool) : kIff Γ a b ρ k = if k = true then exSs Γ a ρ else exSs Γ b ρ := rfl
@[simp] theorem ex_iff (t : Ex) (a b : List Sx) : exS Γ (.iff t a b) ρ = bnd (evE Γ t ρ) (tst (kIff Γ a b ρ)) := by rw [exS]; rfl
def kRet (w : W) : Mo Fl := re (.rt w)
@[simp] theorem kRet_ (w : W) : kRet w = re (.rt w) := rfl
@[simp] theorem ex_ret (e : Ex) : exS Γ (.ret e) ρ = bnd (evE Γ e ρ) kRet := by rw [exS]; rfl
@[simp] theorem ex_pass : exS Γ .pass ρ = re (.nx ρ) := by rw [exS]
@[simp] theorem ex_never : exS Γ .never ρ = no := by rw [exS]
noncomputable def seqF (Γ : Sm) (ss : List Sx) (f : Fl) : Mo Fl := match f with
    | .nx ρ' => exSs Γ ss ρ'
    | .bk ρ' => re (.bk ρ')
    | .ct ρ' => re (.ct ρ')
    | .rt w => re (.rt w)
    | .rl w => re (.rl w)
@[simp] theorem seqF_nx (ss : List Sx) : seqF Γ ss (.nx ρ) = exSs Γ ss ρ := rfl
@[simp] theorem seqF_rt (ss : List Sx) (w : W) : seqF Γ ss (.rt w) = re (.rt w) := rfl
@[simp] theorem seqF_rl (ss : List Sx) (j : Nat) : seqF Γ ss (.rl j) = re (.rl j) := rfl
@[simp] theorem seqF_bk (ss : List Sx) : seqF Γ ss (.bk ρ) = re (.bk ρ) := rfl
@[simp] theorem seqF_ct (ss : List Sx) : seqF Γ ss (.ct ρ) = re (.ct ρ) := rfl
@[simp] theorem exs_nil : exSs Γ [] ρ = re (.nx ρ) := by rw [exSs]
@[simp] theorem exs_cons (s : Sx) (ss : List Sx) : exSs Γ (s :: ss) ρ = bnd (exS Γ s ρ) (seqF Γ ss) := by
  rw [exSs]; rfl
/-! ### the def's end -/
def finM (m : Mo Fl) : Mo W := fun S => (m S).bind (fin S.length)
@[simp] theorem finM_rt (d : PyData) : finM (re (.rt (.d d))) = re (.d d) := by
  funext S
  show some (Out.ok (W.d d) (S.take S.length)) = some (Out.ok (W.d d) S)
  rw [List.take_length]
@[simp] theorem finM_nx (ρ : Env') : finM (re (.nx ρ)) = re (.d .none) := by
  funext S
  show some (Out.ok (W.d PyData.none) (S.take S.length)) = some (Out.ok (W.d PyData.none) S)
  rw [List.take_length]
@[simp] theorem finM_no : finM no = no := rfl
@[simp] theorem finM_ite (c : Prop) [Decidable c] (a b : Mo Fl) : finM (if c then a else b) = if c then finM a else finM b := by
  split <;> rfl
theorem runF_M (sm : Sm) (np nl : Nat) (code : List Sx) (ws : List W) (h : ws.length = np) : runF sm ⟨np, nl, code⟩ ws = finM (exSs sm code (rho nl ws)) := by
  funext S
  show (if ws.length = np then _ else _) = _
  rw [if_pos h]
  rfl
end
/-! ### kinds -/
@[simp] theorem kit_NoneType_int : kitB "NoneType" "int" = some false := by kernel_rfl
@[simp] theorem kit_NoneType_bool : kitB "NoneType" "bool" = some false := by kernel_rfl
@[simp] theorem kit_NoneType_tuple : kitB "NoneType" "tuple" = some false := by kernel_rfl
@[simp] theorem kit_NoneType_str : kitB "NoneType" "str" = some false := by kernel_rfl
@[simp] theorem kit_NoneType_list : kitB "NoneType" "list" = some false := by kernel_rfl
@[simp] theorem kit_bool_int : kitB "bool" "int" = some true := by kernel_rfl
@[simp] theorem kit_bool_bool : kitB "bool" "bool" = some true := by kernel_rfl
@[simp] theorem kit_bool_tuple : kitB "bool" "tuple" = some false := by kernel_rfl
@[simp] theorem kit_bool_str : kitB "bool" "str" = some false := by kernel_rfl
@[simp] theorem kit_bool_list : kitB "bool" "list" = some false := by kernel_rfl
@[simp] theorem kit_int_int : kitB "int" "int" = some true := by kernel_rfl
@[simp] theorem kit_int_bool : kitB "int" "bool" = some false := by kernel_rfl
@[simp] theorem kit_int_tuple : kitB "int" "tuple" = some false := by kernel_rfl
@[simp] theorem kit_int_str : kitB "int" "str" = some false := by kernel_rfl
@[simp] theorem kit_int_list : kitB "int" "list" = some false := by kernel_rfl
@[simp] theorem kit_str_int : kitB "str" "int" = some false := by kernel_rfl
@[simp] theorem kit_str_bool : kitB "str" "bool" = some false := by kernel_rfl
@[simp] theorem kit_str_tuple : kitB "str" "tuple" = some false := by kernel_rfl
@[simp] theorem kit_str_str : kitB "str" "str" = some true := by kernel_rfl
@[simp] theorem kit_str_list : kitB "str" "list" = some false := by kernel_rfl
@[simp] theorem kit_list_int : kitB "list" "int" = some false := by kernel_rfl
@[simp] theorem kit_list_bool : kitB "list" "bool" = some false := by kernel_rfl
@[simp] theorem kit_list_tuple : kitB "list" "tuple" = some false := by kernel_rfl
@[simp] theorem kit_list_str : kitB "list" "str" = some false := by kernel_rfl
@[simp] theorem kit_list_list : kitB "list" "list" = some true := by kernel_rfl
@[simp] theorem kit_tuple_int : kitB "tuple" "int" = some false := by kernel_rfl
@[simp] theorem kit_tuple_bool : kitB "tuple" "bool" = some false := by kernel_rfl
@[simp] theorem kit_tuple_tuple : kitB "tuple" "tuple" = some true := by kernel_rfl
@[simp] theorem kit_tuple_str : kitB "tuple" "str" = some false := by kernel_rfl
@[simp] theorem kit_tuple_list : kitB "tuple" "list" = some false := by kernel_rfl
@[simp] theorem kit_dict_int : kitB "dict" "int" = some false := by kernel_rfl
@[simp] theorem kit_dict_bool : kitB "dict" "bool" = some false := by kernel_rfl
@[simp] theorem kit_dict_tuple : kitB "dict" "tuple" = some false := by kernel_rfl
@[simp] theorem kit_dict_str : kitB "dict" "str" = some false := by kernel_rfl
@[simp] theorem kit_dict_list : kitB "dict" "list" = some false := by kernel_rfl
/-! ### words -/
theorem ite_same {α : Type} (c : Prop) [Decidable c] (a : α) : (if c then a else a) = a := by split <;> rfl
end DL

namespace DL
open PySem PySem.Spec PyProof.Rows L2

/-! ### sizes -/
class Bd (x : Int) (w : outParam Nat) : Prop where
  h : x.natAbs < 2 ^ w
theorem pw_le {a b : Nat} (h : a ≤ b) : 2 ^ a ≤ 2 ^ b := Nat.pow_le_pow_right (by decide) h
theorem Bd.mono {x : Int} {v w : Nat} (h : Bd x v) (hl : v ≤ w) : Bd x w := ⟨Nat.lt_of_lt_of_le h.h (pw_le hl)⟩
theorem Bd.log {x : Int} {w : Nat} (h : Bd x w) : x.natAbs.log2 ≤ w := by
  by_cases e : x.natAbs = 0
  · rw [e]; simp
  · exact Nat.le_of_lt ((Nat.log2_lt e).mpr h.h)
instance bd_l0 : Bd 0 0 := ⟨by decide⟩
instance bd_l1 : Bd 1 1 := ⟨by decide⟩
instance bd_l2 : Bd 2 2 := ⟨by decide⟩
instance bd_l3 : Bd 3 2 := ⟨by decide⟩
instance bd_l4 : Bd 4 3 := ⟨by decide⟩
instance bd_l5 : Bd 5 3 := ⟨by decide⟩
instance bd_l6 : Bd 6 3 := ⟨by decide⟩
instance bd_l7 : Bd 7 3 := ⟨by decide⟩
instance bd_l8 : Bd 8 4 := ⟨by decide⟩
instance bd_l9 : Bd 9 4 := ⟨by decide⟩
instance bd_l10 : Bd 10 4 := ⟨by decide⟩
instance bd_l11 : Bd 11 4 := ⟨by decide⟩
instance bd_l12 : Bd 12 4 := ⟨by decide⟩
instance bd_l13 : Bd 13 4 := ⟨by decide⟩
instance bd_l14 : Bd 14 4 := ⟨by decide⟩
instance bd_l15 : Bd 15 4 := ⟨by decide⟩
instance bd_l16 : Bd 16 5 := ⟨by decide⟩
instance bd_l17 : Bd 17 5 := ⟨by decide⟩
instance bd_l18 : Bd 18 5 := ⟨by decide⟩
instance bd_l19 : Bd 19 5 := ⟨by decide⟩
instance bd_l20 : Bd 20 5 := ⟨by decide⟩
instance bd_l21 : Bd 21 5 := ⟨by decide⟩
instance bd_l22 : Bd 22 5 := ⟨by decide⟩
instance bd_l23 : Bd 23 5 := ⟨by decide⟩
instance bd_l24 : Bd 24 5 := ⟨by decide⟩
instance bd_l25 : Bd 25 5 := ⟨by decide⟩
instance bd_l26 : Bd 26 5 := ⟨by decide⟩
instance bd_l27 : Bd 27 5 := ⟨by decide⟩
instance bd_l28 : Bd 28 5 := ⟨by decide⟩
instance bd_l29 : Bd 29 5 := ⟨by decide⟩
instance bd_l30 : Bd 30 5 := ⟨by decide⟩
instance bd_l31 : Bd 31 5 := ⟨by decide⟩
instance bd_l32 : Bd 32 6 := ⟨by decide⟩
instance bd_l33 : Bd 33 6 := ⟨by decide⟩
instance bd_l34 : Bd 34 6 := ⟨by decide⟩
instance bd_l35 : Bd 35 6 := ⟨by decide⟩
instance bd_l36 : Bd 36 6 := ⟨by decide⟩
instance bd_l37 : Bd 37 6 := ⟨by decide⟩
instance bd_l38 : Bd 38 6 := ⟨by decide⟩
instance bd_l39 : Bd 39 6 := ⟨by decide⟩
instance bd_l40 : Bd 40 6 := ⟨by decide⟩
instance bd_l59 : Bd 59 6 := ⟨by decide⟩
instance bd_l101 : Bd 101 7 := ⟨by decide⟩
instance bd_l400 : Bd 400 9 := ⟨by decide⟩
instance bd_l8009 : Bd 8009 13 := ⟨by decide⟩
instance bd_l31013 : Bd 31013 15 := ⟨by decide⟩
instance bd_l999983 : Bd 999983 20 := ⟨by decide⟩
instance bd_l60101 : Bd 60101 16 := ⟨by decide⟩
instance bd_l30323 : Bd 30323 15 := ⟨by decide⟩
instance bd_l9001 : Bd 9001 14 := ⟨by decide⟩
instance bd_l3001 : Bd 3001 12 := ⟨by decide⟩
instance bd_l70001 : Bd 70001 17 := ⟨by decide⟩
instance bd_l52021 : Bd 52021 16 := ⟨by decide⟩
instance bd_l2147483587 : Bd 2147483587 31 := ⟨by decide⟩
instance bd_l1000 : Bd 1000 10 := ⟨by decide⟩
instance bd_l100 : Bd 100 7 := ⟨by decide⟩
instance bd_neg {x : Int} {w : Nat} [h : Bd x w] : Bd (-x) w := ⟨by rw [Int.natAbs_neg]; exact h.h⟩
instance bd_add {x y : Int} {v w : Nat} [h : Bd x v] [k : Bd y w] : Bd (x + y) (max v w + 1) := ⟨by
  have h1 := Nat.lt_of_lt_of_le h.h (pw_le (Nat.le_max_left v w))
  have h2 := Nat.lt_of_lt_of_le k.h (pw_le (Nat.le_max_right v w))
  have h3 := Int.natAbs_add_le x y
  rw [Nat.pow_succ]
  omega⟩
instance bd_sub {x y : Int} {v w : Nat} [h : Bd x v] [k : Bd y w] : Bd (x - y) (max v w + 1) := by
  rw [Int.sub_eq_add_neg]
  exact bd_add
instance bd_mul {x y : Int} {v w : Nat} [h : Bd x v] [k : Bd y w] : Bd (x * y) (v + w) := ⟨by
  rw [Int.natAbs_mul, Nat.pow_add]
  have h1 := h.h
  have h2 := k.h
  by_cases e : y.natAbs = 0
  · rw [e, Nat.mul_zero]; exact Nat.mul_pos (Nat.two_pow_pos _) (Nat.two_pow_pos _)
  · calc x.natAbs * y.natAbs < 2 ^ v * y.natAbs := Nat.mul_lt_mul_of_pos_right h1 (by omega)
      _ ≤ 2 ^ v * 2 ^ w := Nat.mul_le_mul_left _ (Nat.le_of_lt h2)⟩
instance bd_ite {c : Prop} [Decidable c] {x y : Int} {v w : Nat} [h : Bd x v] [k : Bd y w] : Bd (if c then x else y) (max v w) := by
  split
  · exact h.mono (Nat.le_max_left _ _)
  · exact k.mono (Nat.le_max_right _ _)
instance bd_abs {x : Int} {w : Nat} [h : Bd x w] : Bd ((x.natAbs : Nat) : Int) w := ⟨by rw [Int.natAbs_natCast]; exact h.h⟩
theorem mulOk_ {x y : Int} {v w : Nat} (h : Bd x v) (k : Bd y w) (e : v + w < 1000000) : mulOk x y = true := by
  unfold mulOk
  have := h.log
  have := k.log
  exact decide_eq_true (by omega)
/-! ### operations -/
@[simp] theorem o2_add_ (i j : Int) : o2 .add (.int i) (.int j) = some (.int (i + j)) := rfl
@[simp] theorem o2_sub_ (i j : Int) : o2 .sub (.int i) (.int j) = some (.int (i - j)) := rfl
@[simp] theorem o2_mul_ {i j : Int} {v w : Nat} [h : Bd i v] [k : Bd j w] (e : v + w < 1000000) : o2 .mul (.int i) (.int j) = some (.int (i * j)) := by
  show (if mulOk i j = true then _ else _) = _
  rw [if_pos (mulOk_ h k e)]
@[simp] theorem c2_lt_ (i j : Int) : c2 .lt (.int i) (.int j) = some (decide (i < j)) := rfl
@[simp] theorem c2_le_ (i j : Int) : c2 .le (.int i) (.int j) = some (decide (i ≤ j)) := rfl
@[simp] theorem c2_gt_ (i j : Int) : c2 .gt (.int i) (.int j) = some (decide (j < i)) := rfl
@[simp] theorem c2_ge_ (i j : Int) : c2 .ge (.int i) (.int j) = some (decide (j ≤ i)) := rfl
@[simp] theorem c2_eqI_ (i j : Int) : c2 .eq (.int i) (.int j) = some (decide (i = j)) := rfl
@[simp] theorem c2_neI_ (i j : Int) : c2 .ne (.int i) (.int j) = some (!decide (i = j)) := rfl
@[simp] theorem c2_eqS_ (i j : Str) : c2 .eq (.str i) (.str j) = some (decide (i = j)) := rfl
@[simp] theorem c2_neS_ (i j : Str) : c2 .ne (.str i) (.str j) = some (!decide (i = j)) := rfl
@[simp] theorem c2_isB_ (i j : Bool) : c2 .is (.bool i) (.bool j) = some (decide (i = j)) := rfl
@[simp] theorem c2_isntB_ (i j : Bool) : c2 .isnt (.bool i) (.bool j) = some (!decide (i = j)) := rfl
@[simp] theorem b1_lenT_ (xs : List PyData) : b1 .len [.tuple xs] = some (.int xs.length) := rfl
@[simp] theorem b1_lenL_ (xs : List PyData) : b1 .len [.list xs] = some (.int xs.length) := rfl
@[simp] theorem b1_int_ (i : Int) : b1 .int [.int i] = some (.int i) := rfl
@[simp] theorem b1_abs_ (i : Int) : b1 .abs [.int i] = some (.int ((i.natAbs : Nat) : Int)) := by
  show some (PyData.int _) = _
  congr 2
  split <;> omega
@[simp] theorem b1_gcd_ (a b : Int) : b1 .gcd [.int a, .int b] = some (.int ((Nat.gcd a.natAbs b.natAbs : Nat) : Int)) := rfl
@[simp] theorem b1_tupL_ (xs : List PyData) : b1 .tuple [.list xs] = some (.tuple xs) := rfl
/-! ### choices drawn in -/
section
variable {c : Prop} [Decidable c]
@[simp] theorem ite_and_ (p : Bool) : (if c then re (W.d (.bool p)) else re (W.d (.bool false))) = re (W.d (.bool (decide c && p))) := by
  split <;> simp [*]
@[simp] theorem ite_or_ (p : Bool) : (if c then re (W.d (.bool true)) else re (W.d (.bool p))) = re (W.d (.bool (decide c || p))) := by
  split <;> simp [*]
@[simp] theorem ite_int_ (a b : Int) : (if c then re (W.d (.int a)) else re (W.d (.int b))) = re (W.d (.int (if c then a else b))) := by
  split <;> rfl
@[simp] theorem ite_str_ (a b : Str) : (if c then re (W.d (.str a)) else re (W.d (.str b))) = re (W.d (.str (if c then a else b))) := by
  split <;> rfl
end
/-! ### places -/
@[simp] theorem at_0 (x : PyData) (xs : List PyData) : atD (.tuple (x :: xs)) (.int 0) = some x := by
  simp only [atD, atI, ixN]
  simp
@[simp] theorem at_1 (a x : PyData) (xs : List PyData) : atD (.tuple (a :: x :: xs)) (.int 1) = some x := by
  simp only [atD, atI, ixN]
  simp
  rw [if_pos (by omega)]
  simp
@[simp] theorem at_2 (a b x : PyData) (xs : List PyData) : atD (.tuple (a :: b :: x :: xs)) (.int 2) = some x := by
  simp only [atD, atI, ixN]
  simp
  rw [if_pos (by omega)]
  simp
@[simp] theorem at_3 (a b c x : PyData) (xs : List PyData) : atD (.tuple (a :: b :: c :: x :: xs)) (.int 3) = some x := by
  simp only [atD, atI, ixN]
  simp
  rw [if_pos (by omega)]
  simp
abbrev I (i : Int) : PyData := .int i
abbrev V2 (a b : Int) : PyData := .tuple [.int a, .int b]
abbrev A4 (f a b l : Int) : PyData := .tuple [.int f, .int a, .int b, .int l]
end DL

namespace DL
open PySem PySem.Spec PyProof.Rows L2
section
variable {α β : Type} {Γ : Sm} {ρ : Env'}
theorem staying_eq {S0 S : Sto} {g : List Nat} {m : Mo α} (h : stay S0 S g) : staying S0 g m S = m S := by
  classical
  unfold staying
  rw [if_pos h]
theorem stay_refl (S : Sto) (g : List Nat) : stay S S g := fun _ _ => rfl
/-! ### comprehensions -/
noncomputable def cmGo (Γ : Sm) (p : Pat) (cs : List Ex) (e : Ex) (S0 : Sto) (g : List Nat) (ρ0 : Env') (xs acc : List PyData) : Mo (List PyData) := compL (asg p) (fun ρ' => cndE Γ cs ρ') (fun ρ' => evE Γ e ρ') S0 g ρ0 xs acc
noncomputable def cmW' (Γ : Sm) (k : SK) (p : Pat) (cs : List Ex) (e : Ex) (ρ0 : Env') (ws : List W) : Mo W := fun S => match itemsOf k ws S with
    | some (xs, g) => if xs.length ≤ LIM then (bnd (noexc (cmGo Γ p cs e S g ρ0 xs [])) fun ys => re (.d (.list ys))) S else none
    | none => none
theorem ev_cmpr (k : SK) (src : List Ex) (p : Pat) (cs : List Ex) (e : Ex) (own : List Nat) : evE Γ (.cmpr k src p cs e own) ρ = bnd (evEs Γ src ρ) (cmW' Γ k p cs e (wipeE ρ own)) := by rw [evE]; rfl
/-- at a state: each turn leaves the store as it was -/
theorem cmGo_ok {p : Pat} {cs : List Ex} {e : Ex} {S : Sto} {g : List Nat} {ρ0 : Env'} {f : PyData → Option PyData} : ∀ (xs acc : List PyData),
    (∀ x ∈ xs, ∃ ρ' b, asg p x ρ0 S = some (.ok ρ' S) ∧ cndE Γ cs ρ' S = some (.ok b S) ∧ (b = false → f x = none) ∧ (b = true → ∃ d, evE Γ e ρ' S = some (.ok (.d d) S) ∧ f x = some d)) →
    cmGo Γ p cs e S g ρ0 xs acc S = some (.ok (acc ++ xs.filterMap f) S)
  | [], acc, _ => by
    classical
    unfold cmGo
    rw [compL]
    rw [staying_eq (stay_refl S g)]
    simp [re]
  | x :: xs, acc, h => by
    classical
    obtain ⟨ρ', b, h1, h2, h3, h4⟩ := h x List.mem_cons_self
    have hr : ∀ x ∈ xs, _ := fun y hy => h y (List.mem_cons_of_mem _ hy)
    unfold cmGo
    rw [compL]
    rw [staying_eq (stay_refl S g)]
    cases b with
    | false =>
      have ih := cmGo_ok (g := g) xs acc hr
      unfold cmGo at ih
      simp only [bnd, h1, h2, Bool.false_eq_true, if_false]
      rw [ih, List.filterMap_cons, h3 rfl]
    | true =>
      obtain ⟨d, h5, h6⟩ := h4 rfl
      have ih := cmGo_ok (g := g) xs (acc ++ [d]) hr
      unfold cmGo at ih
      simp only [bnd, h1, h2, h5, onD, if_true]
      rw [ih, List.filterMap_cons, h6]
      simp
theorem cmW_ok {k : SK} {p : Pat} {cs : List Ex} {e : Ex} {S : Sto} {g : List Nat} {ρ0 : Env'} {f : PyData → Option PyData} {ws : List W} {xs : List PyData} (hi : itemsOf k ws S = some (xs, g)) (hl : xs.length ≤ LIM)
    (h : ∀ x ∈ xs, ∃ ρ' b, asg p x ρ0 S = some (.ok ρ' S) ∧ cndE Γ cs ρ' S = some (.ok b S) ∧ (b = false → f x = none) ∧ (b = true → ∃ d, evE Γ e ρ' S = some (.ok (.d d) S) ∧ f x = some d)) :
    cmW' Γ k p cs e ρ0 ws S = some (.ok (.d (.list (xs.filterMap f))) S) := by
  unfold cmW'
  rw [hi]
  show (if xs.length ≤ LIM then _ else _) = _
  rw [if_pos hl]
  have := cmGo_ok (g := g) xs [] h
  simp only [bnd, noexc, this, re, List.nil_append]
/-- a map over what does not look at the store -/
theorem cmW_map {k : SK} {p : Pat} {e : Ex} {ρ0 : Env'} {f : PyData → PyData} {ws : List W} {xs : List PyData} (hi : ∀ S, itemsOf k ws S = some (xs, [])) (hl : xs.length ≤ LIM)
    (h : ∀ x ∈ xs, ∃ ρ', asg p x ρ0 = re ρ' ∧ evE Γ e ρ' = re (.d (f x))) : cmW' Γ k p [] e ρ0 ws = re (.d (.list (xs.map f))) := by
  funext S
  have := cmW_ok (Γ := Γ) (k := k) (p := p) (cs := []) (e := e) (S := S) (g := []) (ρ0 := ρ0) (f := fun x => some (f x)) (hi S) hl fun x hx => by
    obtain ⟨ρ', h1, h2⟩ := h x hx
    exact ⟨ρ', true, by rw [h1]; rfl, by rw [cnd_nil]; rfl, (by simp), fun _ => ⟨f x, by rw [h2]; rfl, rfl⟩⟩
  rw [this]
  have e2 : xs.filterMap (fun x => some (f x)) = xs.map f := by
    induction xs with
    | nil => rfl
    | cons x xs ih => simp
  rw [e2]
  rfl
theorem cm_tup {p : Pat} {e : Ex} {ρ0 : Env'} (f : PyData → PyData) {xs : List PyData} (hl : xs.length ≤ LIM) (h : ∀ x ∈ xs, ∃ ρ', asg p x ρ0 = re ρ' ∧ evE Γ e ρ' = re (.d (f x))) :
    cmW' Γ .seq p [] e ρ0 [.d (.tuple xs)] = re (.d (.list (xs.map f))) := cmW_map (fun _ => rfl) hl h
theorem cm_lst {p : Pat} {e : Ex} {ρ0 : Env'} (f : PyData → PyData) {xs : List PyData} (hl : xs.length ≤ LIM) (h : ∀ x ∈ xs, ∃ ρ', asg p x ρ0 = re ρ' ∧ evE Γ e ρ' = re (.d (f x))) :
    cmW' Γ .seq p [] e ρ0 [.d (.list xs)] = re (.d (.list (xs.map f))) := cmW_map (fun _ => rfl) hl h
/-! ### loops -/
noncomputable def frW (Γ : Sm) (k : SK) (p : Pat) (b : List Sx) (ρ : Env') (ws : List W) : Mo Fl := fun S => match itemsOf k ws S with
    | some (xs, g) => if xs.length ≤ LIM then forE (asg p) (fun ρ => exSs Γ b ρ) S g xs ρ S else none
    | none => none
theorem ex_fors (p : Pat) (k : SK) (src : List Ex) (b : List Sx) : exS Γ (.fors p k src b) ρ = bnd (evEs Γ src ρ) (frW Γ k p b ρ) := by rw [exS]; rfl
noncomputable def whW (Γ : Sm) (t : Ex) (b : List Sx) (n : Nat) (ρ : Env') : Mo Fl := whE (fun ρ => bnd (evE Γ t ρ) truthB) (fun ρ => exSs Γ b ρ) n ρ
theorem ex_whl (t : Ex) (b : List Sx) : exS Γ (.whl t b) ρ = whW Γ t b FU ρ := by rw [exS]; rfl
/-- one turn of a while that leaves the store alone -/
theorem whW_go {t : Ex} {b : List Sx} {n : Nat} {ρ' : Env'} (h1 : evE Γ t ρ = re (.d (.bool true))) (h2 : exSs Γ b ρ = re (.nx ρ')) : whW Γ t b (n + 1) ρ = whW Γ t b n ρ' := by
  unfold whW
  rw [whE, h1, h2]
  rfl
theorem whW_end {t : Ex} {b : List Sx} {n : Nat} (h1 : evE Γ t ρ = re (.d (.bool false))) : whW Γ t b (n + 1) ρ = re (.nx ρ) := by
  unfold whW
  rw [whE, h1]
  rfl
/-! ### at a store -/
def wp (m : Mo α) (S : Sto) (Q : α → Sto → Prop) : Prop := ∃ a S', m S = some (.ok a S') ∧ Q a S'
theorem wp_re {x : α} {S : Sto} {Q : α → Sto → Prop} (h : Q x S) : wp (re x) S Q := ⟨x, S, rfl, h⟩
theorem wp_bnd {m : Mo α} {f : α → Mo β} {S : Sto} {Q : β → Sto → Prop} (h : wp m S fun a S' => wp (f a) S' Q) : wp (bnd m f) S Q := by
  obtain ⟨a, S', h1, b, S2, h2, q⟩ := h
  exact ⟨b, S2, by unfold bnd; rw [h1]; exact h2, q⟩
theorem wp_mono {m : Mo α} {S : Sto} {Q Q' : α → Sto → Prop} (h : wp m S Q) (k : ∀ a S', Q a S' → Q' a S') : wp m S Q' := by
  obtain ⟨a, S', h1, q⟩ := h
  exact ⟨a, S', h1, k _ _ q⟩
theorem wp_then {m : Mo α} {f : α → Mo β} {S : Sto} {P : α → Sto → Prop} {Q : β → Sto → Prop} (h : wp m S P) (k : ∀ a S', P a S' → wp (f a) S' Q) : wp (bnd m f) S Q := wp_bnd (wp_mono h k)
/-- the def's end -/
theorem wp_fin {m : Mo Fl} {S : Sto} {Q : W → Sto → Prop} (h : wp m S fun f S' => match f with
    | .rt (.d d) => Q (.d d) (S'.take S.length)
    | .nx _ => Q (.d .none) (S'.take S.length)
    | .rt (.l j) => S.length ≤ j ∧ ∃ xs, S'[j]? = some xs ∧ Q (.d (.list xs)) (S'.take S.length)
    | .rl j => S.length ≤ j ∧ ∃ xs, S'[j]? = some xs ∧ Q (.l S.length) (S'.take S.length ++ [xs])
    | _ => False) : wp (finM m) S Q := by
  obtain ⟨f, S', h1, q⟩ := h
  unfold wp finM
  rw [h1]
  cases f with
  | nx ρ => exact ⟨_, _, rfl, q⟩
  | bk ρ => exact q.elim
  | ct ρ => exact q.elim
  | rl j =>
    obtain ⟨hj, xs, e, q⟩ := q
    refine ⟨.l S.length, _, ?_, q⟩
    show (if S.length ≤ j then (S'[j]?).map _ else none) = _
    rw [if_pos hj, e]
    rfl
  | rt w =>
    cases w with
    | d x => exact ⟨_, _, rfl, q⟩
    | l j =>
      obtain ⟨hj, xs, e, q⟩ := q
      refine ⟨.d (.list xs), _, ?_, q⟩
      show (if S.length ≤ j then (S'[j]?).map _ else none) = _
      rw [if_pos hj, e]
      rfl
/-- a for: Iv by the number of turns done -/
theorem wp_for {k : SK} {p : Pat} {b : List Sx} {ws : List W} {S : Sto} {Q : Fl → Sto → Prop} {xs : List PyData} {g : List Nat} (Iv : List PyData → Env' → Sto → Prop) (hi : itemsOf k ws S = some (xs, g)) (hl : xs.length ≤ LIM)
    (h0 : Iv xs ρ S) (hs : ∀ ys ρ S', Iv ys ρ S' → stay S S' g) (hend : ∀ ρ' S', Iv [] ρ' S' → Q (.nx ρ') S')
    (step : ∀ x ys ρ S', Iv (x :: ys) ρ S' → wp (asg p x ρ) S' fun ρ1 S1 => wp (exSs Γ b ρ1) S1 fun f S2 => match f with
      | .nx ρ2 => Iv ys ρ2 S2
      | .ct ρ2 => Iv ys ρ2 S2
      | .bk ρ2 => Q (.nx ρ2) S2
      | .rt w => Q (.rt w) S2
      | .rl w => Q (.rl w) S2) : wp (frW Γ k p b ρ ws) S Q := by
  classical
  unfold wp frW
  rw [hi]
  show ∃ a S', (if xs.length ≤ LIM then _ else _) = _ ∧ _
  rw [if_pos hl]
  have key : ∀ (ys : List PyData) (ρ : Env') (S' : Sto), Iv ys ρ S' → ∃ a S2, forE (asg p) (fun ρ => exSs Γ b ρ) S g ys ρ S' = some (.ok a S2) ∧ Q a S2 := by
    intro ys
    induction ys with
    | nil =>
      intro ρ S' iv
      refine ⟨.nx ρ, S', ?_, hend _ _ iv⟩
      rw [forE]
      rw [staying_eq (hs _ _ _ iv)]
      rfl
    | cons x ys ih =>
      intro ρ S' iv
      obtain ⟨ρ1, S1, h1, f, S2, h2, q⟩ := step x ys ρ S' iv
      rw [forE]
      rw [staying_eq (hs _ _ _ iv)]
      have h2 : exSs Γ b ρ1 S1 = some (.ok f S2) := h2
      simp only [bnd, h1, h2]
      cases f with
      | nx ρ2 => exact ih ρ2 S2 q
      | ct ρ2 => exact ih ρ2 S2 q
      | bk ρ2 => exact ⟨_, _, rfl, q⟩
      | rt w => exact ⟨_, _, rfl, q⟩
      | rl w => exact ⟨_, _, rfl, q⟩
  exact key xs ρ S h0
end
/-! ### cuts of tuples -/
@[simp] theorem sl_13 (a b c d : PyData) : slD (.tuple [a, b, c, d]) (some 1) (some 3) = some (.tuple [b, c]) := rfl
@[simp] theorem sl_1n (a b c d : PyData) : slD (.tuple [a, b, c, d]) (some 1) none = some (.tuple [b, c, d]) := rfl
@[simp] theorem sl_3n (a b c d : PyData) : slD (.tuple [a, b, c, d]) (some 3) none = some (.tuple [d]) := rfl
@[simp] theorem sl_n2 (a b c d e f g : PyData) : slD (.tuple [a, b, c, d, e, f, g]) none (some 2) = some (.tuple [a, b]) := rfl
@[simp] theorem sl_26 (a b c d e f g : PyData) : slD (.tuple [a, b, c, d, e, f, g]) (some 2) (some 6) = some (.tuple [c, d, e, f]) := rfl
@[simp] theorem at_6 (a b c d e f g : PyData) : atD (.tuple [a, b, c, d, e, f, g]) (.int 6) = some g := rfl
end DL

namespace DL
open PySem PySem.Spec PyProof.Rows L2
/-! ### words that differ -/
@[simp] theorem w_both_steam : ((Str.ofString "both") = Str.ofString "steam") = False := by
  apply eq_false
  decide +kernel
@[simp] theorem w_both_exhaust : ((Str.ofString "both") = Str.ofString "exhaust") = False := by
  apply eq_false
  decide +kernel
@[simp] theorem w_both_closed : ((Str.ofString "both") = Str.ofString "closed") = False := by
  apply eq_false
  decide +kernel
@[simp] theorem w_both_side : ((Str.ofString "both") = Str.ofString "side") = False := by
  apply eq_false
  decide +kernel
@[simp] theorem w_both_and : ((Str.ofString "both") = Str.ofString "and") = False := by
  apply eq_false
  decide +kernel
@[simp] theorem w_both_or : ((Str.ofString "both") = Str.ofString "or") = False := by
  apply eq_false
  decide +kernel
@[simp] theorem w_both_not : ((Str.ofString "both") = Str.ofString "not") = False := by
  apply eq_false
  decide +kernel
@[simp] theorem w_both_all : ((Str.ofString "both") = Str.ofString "all") = False := by
  apply eq_false
  decide +kernel
@[simp] theorem w_both_crank : ((Str.ofString "both") = Str.ofString "crank") = False := by
  apply eq_false
  decide +kernel
@[simp] theorem w_both_head : ((Str.ofString "both") = Str.ofString "head") = False := by
  apply eq_false
  decide +kernel
@[simp] theorem w_both_admission : ((Str.ofString "both") = Str.ofString "admission") = False := by
  apply eq_false
  decide +kernel
@[simp] theorem w_both_cutoff : ((Str.ofString "both") = Str.ofString "cutoff") = False := by
  apply eq_false
  decide +kernel
@[simp] theorem w_both_release : ((Str.ofString "both") = Str.ofString "release") = False := by
  apply eq_false
  decide +kernel
@[simp] theorem w_both_compression : ((Str.ofString "both") = Str.ofString "compression") = False := by
  apply eq_false
  decide +kernel
@[simp] theorem w_steam_both : ((Str.ofString "steam") = Str.ofString "both") = False := by
  apply eq_false
  decide +kernel
@[simp] theorem w_steam_exhaust : ((Str.ofString "steam") = Str.ofString "exhaust") = False := by
  apply eq_false
  decide +kernel
@[simp] theorem w_steam_closed : ((Str.ofString "steam") = Str.ofString "closed") = False := by
  apply eq_false
  decide +kernel
@[simp] theorem w_steam_side : ((Str.ofString "steam") = Str.ofString "side") = False := by
  apply eq_false
  decide +kernel
@[simp] theorem w_steam_and : ((Str.ofString "steam") = Str.ofString "and") = False := by
  apply eq_false
  decide +kernel
@[simp] theorem w_steam_or : ((Str.ofString "steam") = Str.ofString "or") = False := by
  apply eq_false
  decide +kernel
@[simp] theorem w_steam_not : ((Str.ofString "steam") = Str.ofString "not") = False := by
  apply eq_false
  decide +kernel
@[simp] theorem w_steam_all : ((Str.ofString "steam") = Str.ofString "all") = False := by
  apply eq_false
  decide +kernel
@[simp] theorem w_steam_crank : ((Str.ofString "steam") = Str.ofString "crank") = False := by
  apply eq_false
  decide +kernel
@[simp] theorem w_steam_head : ((Str.ofString "steam") = Str.ofString "head") = False := by
  apply eq_false
  decide +kernel
@[simp] theorem w_steam_admission : ((Str.ofString "steam") = Str.ofString "admission") = False := by
  apply eq_false
  decide +kernel
@[simp] theorem w_steam_cutoff : ((Str.ofString "steam") = Str.ofString "cutoff") = False := by
  apply eq_false
  decide +kernel
@[simp] theorem w_steam_release : ((Str.ofString "steam") = Str.ofString "release") = False := by
  apply eq_false
  decide +kernel
@[simp] theorem w_steam_compression : ((Str.ofString "steam") = Str.ofString "compression") = False := by
  apply eq_false
  decide +kernel
@[simp] theorem w_exhaust_both : ((Str.ofString "exhaust") = Str.ofString "both") = False := by
  apply eq_false
  decide +kernel
@[simp] theorem w_exhaust_steam : ((Str.ofString "exhaust") = Str.ofString "steam") = False := by
  apply eq_false
  decide +kernel
@[simp] theorem w_exhaust_closed : ((Str.ofString "exhaust") = Str.ofString "closed") = False := by
  apply eq_false
  decide +kernel
@[simp] theorem w_exhaust_side : ((Str.ofString "exhaust") = Str.ofString "side") = False := by
  apply eq_false
  decide +kernel
@[simp] theorem w_exhaust_and : ((Str.ofString "exhaust") = Str.ofString "and") = False := by
  apply eq_false
  decide +kernel
@[simp] theorem w_exhaust_or : ((Str.ofString "exhaust") = Str.ofString "or") = False := by
  apply eq_false
  decide +kernel
@[simp] theorem w_exhaust_not : ((Str.ofString "exhaust") = Str.ofString "not") = False := by
  apply eq_false
  decide +kernel
@[simp] theorem w_exhaust_all : ((Str.ofString "exhaust") = Str.ofString "all") = False := by
  apply eq_false
  decide +kernel
@[simp] theorem w_exhaust_crank : ((Str.ofString "exhaust") = Str.ofString "crank") = False := by
  apply eq_false
  decide +kernel
@[simp] theorem w_exhaust_head : ((Str.ofString "exhaust") = Str.ofString "head") = False := by
  apply eq_false
  decide +kernel
@[simp] theorem w_exhaust_admission : ((Str.ofString "exhaust") = Str.ofString "admission") = False := by
  apply eq_false
  decide +kernel
@[simp] theorem w_exhaust_cutoff : ((Str.ofString "exhaust") = Str.ofString "cutoff") = False := by
  apply eq_false
  decide +kernel
@[simp] theorem w_exhaust_release : ((Str.ofString "exhaust") = Str.ofString "release") = False := by
  apply eq_false
  decide +kernel
@[simp] theorem w_exhaust_compression : ((Str.ofString "exhaust") = Str.ofString "compression") = False := by
  apply eq_false
  decide +kernel
@[simp] theorem w_closed_both : ((Str.ofString "closed") = Str.ofString "both") = False := by
  apply eq_false
  decide +kernel
@[simp] theorem w_closed_steam : ((Str.ofString "closed") = Str.ofString "steam") = False := by
  apply eq_false
  decide +kernel
@[simp] theorem w_closed_exhaust : ((Str.ofString "closed") = Str.ofString "exhaust") = False := by
  apply eq_false
  decide +kernel
@[simp] theorem w_closed_side : ((Str.ofString "closed") = Str.ofString "side") = False := by
  apply eq_false
  decide +kernel
@[simp] theorem w_closed_and : ((Str.ofString "closed") = Str.ofString "and") = False := by
  apply eq_false
  decide +kernel
@[simp] theorem w_closed_or : ((Str.ofString "closed") = Str.ofString "or") = False := by
  apply eq_false
  decide +kernel
@[simp] theorem w_closed_not : ((Str.ofString "closed") = Str.ofString "not") = False := by
  apply eq_false
  decide +kernel
@[simp] theorem w_closed_all : ((Str.ofString "closed") = Str.ofString "all") = False := by
  apply eq_false
  decide +kernel
@[simp] theorem w_closed_crank : ((Str.ofString "closed") = Str.ofString "crank") = False := by
  apply eq_false
  decide +kernel
@[simp] theorem w_closed_head : ((Str.ofString "closed") = Str.ofString "head") = False := by
  apply eq_false
  decide +kernel
@[simp] theorem w_closed_admission : ((Str.ofString "closed") = Str.ofString "admission") = False := by
  apply eq_false
  decide +kernel
@[simp] theorem w_closed_cutoff : ((Str.ofString "closed") = Str.ofString "cutoff") = False := by
  apply eq_false
  decide +kernel
@[simp] theorem w_closed_release : ((Str.ofString "closed") = Str.ofString "release") = False := by
  apply eq_false
  decide +kernel
@[simp] theorem w_closed_compression : ((Str.ofString "closed") = Str.ofString "compression") = False := by
  apply eq_false
  decide +kernel
@[simp] theorem w_side_both : ((Str.ofString "side") = Str.ofString "both") = False := by
  apply eq_false
  decide +kernel
@[simp] theorem w_side_steam : ((Str.ofString "side") = Str.ofString "steam") = False := by
  apply eq_false
  decide +kernel
@[simp] theorem w_side_exhaust : ((Str.ofString "side") = Str.ofString "exhaust") = False := by
  apply eq_false
  decide +kernel
@[simp] theorem w_side_closed : ((Str.ofString "side") = Str.ofString "closed") = False := by
  apply eq_false
  decide +kernel
@[simp] theorem w_side_and : ((Str.ofString "side") = Str.ofString "and") = False := by
  apply eq_false
  decide +kernel
@[simp] theorem w_side_or : ((Str.ofString "side") = Str.ofString "or") = False := by
  apply eq_false
  decide +kernel
@[simp] theorem w_side_not : ((Str.ofString "side") = Str.ofString "not") = False := by
  apply eq_false
  decide +kernel
@[simp] theorem w_side_all : ((Str.ofString "side") = Str.ofString "all") = False := by
  apply eq_false
  decide +kernel
@[simp] theorem w_side_crank : ((Str.ofString "side") = Str.ofString "crank") = False := by
  apply eq_false
  decide +kernel
@[simp] theorem w_side_head : ((Str.ofString "side") = Str.ofString "head") = False := by
  apply eq_false
  decide +kernel
@[simp] theorem w_side_admission : ((Str.ofString "side") = Str.ofString "admission") = False := by
  apply eq_false
  decide +kernel
@[simp] theorem w_side_cutoff : ((Str.ofString "side") = Str.ofString "cutoff") = False := by
  apply eq_false
  decide +kernel
@[simp] theorem w_side_release : ((Str.ofString "side") = Str.ofString "release") = False := by
  apply eq_false
  decide +kernel
@[simp] theorem w_side_compression : ((Str.ofString "side") = Str.ofString "compression") = False := by
  apply eq_false
  decide +kernel
@[simp] theorem w_and_both : ((Str.ofString "and") = Str.ofString "both") = False := by
  apply eq_false
  decide +kernel
@[simp] theorem w_and_steam : ((Str.ofString "and") = Str.ofString "steam") = False := by
  apply eq_false
  decide +kernel
@[simp] theorem w_and_exhaust : ((Str.ofString "and") = Str.ofString "exhaust") = False := by
  apply eq_false
  decide +kernel
@[simp] theorem w_and_closed : ((Str.ofString "and") = Str.ofString "closed") = False := by
  apply eq_false
  decide +kernel
@[simp] theorem w_and_side : ((Str.ofString "and") = Str.ofString "side") = False := by
  apply eq_false
  decide +kernel
@[simp] theorem w_and_or : ((Str.ofString "and") = Str.ofString "or") = False := by
  apply eq_false
  decide +kernel
@[simp] theorem w_and_not : ((Str.ofString "and") = Str.ofString "not") = False := by
  apply eq_false
  decide +kernel
@[simp] theorem w_and_all : ((Str.ofString "and") = Str.ofString "all") = False := by
  apply eq_false
  decide +kernel
@[simp] theorem w_and_crank : ((Str.ofString "and") = Str.ofString "crank") = False := by
  apply eq_false
  decide +kernel
@[simp] theorem w_and_head : ((Str.ofString "and") = Str.ofString "head") = False := by
  apply eq_false
  decide +kernel
@[simp] theorem w_and_admission : ((Str.ofString "and") = Str.ofString "admission") = False := by
  apply eq_false
  decide +kernel
@[simp] theorem w_and_cutoff : ((Str.ofString "and") = Str.ofString "cutoff") = False := by
  apply eq_false
  decide +kernel
@[simp] theorem w_and_release : ((Str.ofString "and") = Str.ofString "release") = False := by
  apply eq_false
  decide +kernel
@[simp] theorem w_and_compression : ((Str.ofString "and") = Str.ofString "compression") = False := by
  apply eq_false
  decide +kernel
@[simp] theorem w_or_both : ((Str.ofString "or") = Str.ofString "both") = False := by
  apply eq_false
  decide +kernel
@[simp] theorem w_or_steam : ((Str.ofString "or") = Str.ofString "steam") = False := by
  apply eq_false
  decide +kernel
@[simp] theorem w_or_exhaust : ((Str.ofString "or") = Str.ofString "exhaust") = False := by
  apply eq_false
  decide +kernel
@[simp] theorem w_or_closed : ((Str.ofString "or") = Str.ofString "closed") = False := by
  apply eq_false
  decide +kernel
@[simp] theorem w_or_side : ((Str.ofString "or") = Str.ofString "side") = False := by
  apply eq_false
  decide +kernel
@[simp] theorem w_or_and : ((Str.ofString "or") = Str.ofString "and") = False := by
  apply eq_false
  decide +kernel
@[simp] theorem w_or_not : ((Str.ofString "or") = Str.ofString "not") = False := by
  apply eq_false
  decide +kernel
@[simp] theorem w_or_all : ((Str.ofString "or") = Str.ofString "all") = False := by
  apply eq_false
  decide +kernel
@[simp] theorem w_or_crank : ((Str.ofString "or") = Str.ofString "crank") = False := by
  apply eq_false
  decide +kernel
@[simp] theorem w_or_head : ((Str.ofString "or") = Str.ofString "head") = False := by
  apply eq_false
  decide +kernel
@[simp] theorem w_or_admission : ((Str.ofString "or") = Str.ofString "admission") = False := by
  apply eq_false
  decide +kernel
@[simp] theorem w_or_cutoff : ((Str.ofString "or") = Str.ofString "cutoff") = False := by
  apply eq_false
  decide +kernel
@[simp] theorem w_or_release : ((Str.ofString "or") = Str.ofString "release") = False := by
  apply eq_false
  decide +kernel
@[simp] theorem w_or_compression : ((Str.ofString "or") = Str.ofString "compression") = False := by
  apply eq_false
  decide +kernel
@[simp] theorem w_not_both : ((Str.ofString "not") = Str.ofString "both") = False := by
  apply eq_false
  decide +kernel
@[simp] theorem w_not_steam : ((Str.ofString "not") = Str.ofString "steam") = False := by
  apply eq_false
  decide +kernel
@[simp] theorem w_not_exhaust : ((Str.ofString "not") = Str.ofString "exhaust") = False := by
  apply eq_false
  decide +kernel
@[simp] theorem w_not_closed : ((Str.ofString "not") = Str.ofString "closed") = False := by
  apply eq_false
  decide +kernel
@[simp] theorem w_not_side : ((Str.ofString "not") = Str.ofString "side") = False := by
  apply eq_false
  decide +kernel
@[simp] theorem w_not_and : ((Str.ofString "not") = Str.ofString "and") = False := by
  apply eq_false
  decide +kernel
@[simp] theorem w_not_or : ((Str.ofString "not") = Str.ofString "or") = False := by
  apply eq_false
  decide +kernel
@[simp] theorem w_not_all : ((Str.ofString "not") = Str.ofString "all") = False := by
  apply eq_false
  decide +kernel
@[simp] theorem w_not_crank : ((Str.ofString "not") = Str.ofString "crank") = False := by
  apply eq_false
  decide +kernel
@[simp] theorem w_not_head : ((Str.ofString "not") = Str.ofString "head") = False := by
  apply eq_false
  decide +kernel
@[simp] theorem w_not_admission : ((Str.ofString "not") = Str.ofString "admission") = False := by
  apply eq_false
  decide +kernel
@[simp] theorem w_not_cutoff : ((Str.ofString "not") = Str.ofString "cutoff") = False := by
  apply eq_false
  decide +kernel
@[simp] theorem w_not_release : ((Str.ofString "not") = Str.ofString "release") = False := by
  apply eq_false
  decide +kernel
@[simp] theorem w_not_compression : ((Str.ofString "not") = Str.ofString "compression") = False := by
  apply eq_false
  decide +kernel
@[simp] theorem w_all_both : ((Str.ofString "all") = Str.ofString "both") = False := by
  apply eq_false
  decide +kernel
@[simp] theorem w_all_steam : ((Str.ofString "all") = Str.ofString "steam") = False := by
  apply eq_false
  decide +kernel
@[simp] theorem w_all_exhaust : ((Str.ofString "all") = Str.ofString "exhaust") = False := by
  apply eq_false
  decide +kernel
@[simp] theorem w_all_closed : ((Str.ofString "all") = Str.ofString "closed") = False := by
  apply eq_false
  decide +kernel
@[simp] theorem w_all_side : ((Str.ofString "all") = Str.ofString "side") = False := by
  apply eq_false
  decide +kernel
@[simp] theorem w_all_and : ((Str.ofString "all") = Str.ofString "and") = False := by
  apply eq_false
  decide +kernel
@[simp] theorem w_all_or : ((Str.ofString "all") = Str.ofString "or") = False := by
  apply eq_false
  decide +kernel
@[simp] theorem w_all_not : ((Str.ofString "all") = Str.ofString "not") = False := by
  apply eq_false
  decide +kernel
@[simp] theorem w_all_crank : ((Str.ofString "all") = Str.ofString "crank") = False := by
  apply eq_false
  decide +kernel
@[simp] theorem w_all_head : ((Str.ofString "all") = Str.ofString "head") = False := by
  apply eq_false
  decide +kernel
@[simp] theorem w_all_admission : ((Str.ofString "all") = Str.ofString "admission") = False := by
  apply eq_false
  decide +kernel
@[simp] theorem w_all_cutoff : ((Str.ofString "all") = Str.ofString "cutoff") = False := by
  apply eq_false
  decide +kernel
@[simp] theorem w_all_release : ((Str.ofString "all") = Str.ofString "release") = False := by
  apply eq_false
  decide +kernel
@[simp] theorem w_all_compression : ((Str.ofString "all") = Str.ofString "compression") = False := by
  apply eq_false
  decide +kernel
@[simp] theorem w_crank_both : ((Str.ofString "crank") = Str.ofString "both") = False := by
  apply eq_false
  decide +kernel
@[simp] theorem w_crank_steam : ((Str.ofString "crank") = Str.ofString "steam") = False := by
  apply eq_false
  decide +kernel
@[simp] theorem w_crank_exhaust : ((Str.ofString "crank") = Str.ofString "exhaust") = False := by
  apply eq_false
  decide +kernel
@[simp] theorem w_crank_closed : ((Str.ofString "crank") = Str.ofString "closed") = False := by
  apply eq_false
  decide +kernel
@[simp] theorem w_crank_side : ((Str.ofString "crank") = Str.ofString "side") = False := by
  apply eq_false
  decide +kernel
@[simp] theorem w_crank_and : ((Str.ofString "crank") = Str.ofString "and") = False := by
  apply eq_false
  decide +kernel
@[simp] theorem w_crank_or : ((Str.ofString "crank") = Str.ofString "or") = False := by
  apply eq_false
  decide +kernel
@[simp] theorem w_crank_not : ((Str.ofString "crank") = Str.ofString "not") = False := by
  apply eq_false
  decide +kernel
@[simp] theorem w_crank_all : ((Str.ofString "crank") = Str.ofString "all") = False := by
  apply eq_false
  decide +kernel
@[simp] theorem w_crank_head : ((Str.ofString "crank") = Str.ofString "head") = False := by
  apply eq_false
  decide +kernel
@[simp] theorem w_crank_admission : ((Str.ofString "crank") = Str.ofString "admission") = False := by
  apply eq_false
  decide +kernel
@[simp] theorem w_crank_cutoff : ((Str.ofString "crank") = Str.ofString "cutoff") = False := by
  apply eq_false
  decide +kernel
@[simp] theorem w_crank_release : ((Str.ofString "crank") = Str.ofString "release") = False := by
  apply eq_false
  decide +kernel
@[simp] theorem w_crank_compression : ((Str.ofString "crank") = Str.ofString "compression") = False := by
  apply eq_false
  decide +kernel
@[simp] theorem w_head_both : ((Str.ofString "head") = Str.ofString "both") = False := by
  apply eq_false
  decide +kernel
@[simp] theorem w_head_steam : ((Str.ofString "head") = Str.ofString "steam") = False := by
  apply eq_false
  decide +kernel
@[simp] theorem w_head_exhaust : ((Str.ofString "head") = Str.ofString "exhaust") = False := by
  apply eq_false
  decide +kernel
@[simp] theorem w_head_closed : ((Str.ofString "head") = Str.ofString "closed") = False := by
  apply eq_false
  decide +kernel
@[simp] theorem w_head_side : ((Str.ofString "head") = Str.ofString "side") = False := by
  apply eq_false
  decide +kernel
@[simp] theorem w_head_and : ((Str.ofString "head") = Str.ofString "and") = False := by
  apply eq_false
  decide +kernel
@[simp] theorem w_head_or : ((Str.ofString "head") = Str.ofString "or") = False := by
  apply eq_false
  decide +kernel
@[simp] theorem w_head_not : ((Str.ofString "head") = Str.ofString "not") = False := by
  apply eq_false
  decide +kernel
@[simp] theorem w_head_all : ((Str.ofString "head") = Str.ofString "all") = False := by
  apply eq_false
  decide +kernel
@[simp] theorem w_head_crank : ((Str.ofString "head") = Str.ofString "crank") = False := by
  apply eq_false
  decide +kernel
@[simp] theorem w_head_admission : ((Str.ofString "head") = Str.ofString "admission") = False := by
  apply eq_false
  decide +kernel
@[simp] theorem w_head_cutoff : ((Str.ofString "head") = Str.ofString "cutoff") = False := by
  apply eq_false
  decide +kernel
@[simp] theorem w_head_release : ((Str.ofString "head") = Str.ofString "release") = False := by
  apply eq_false
  decide +kernel
@[simp] theorem w_head_compression : ((Str.ofString "head") = Str.ofString "compression") = False := by
  apply eq_false
  decide +kernel
@[simp] theorem w_admission_both : ((Str.ofString "admission") = Str.ofString "both") = False := by
  apply eq_false
  decide +kernel
@[simp] theorem w_admission_steam : ((Str.ofString "admission") = Str.ofString "steam") = False := by
  apply eq_false
  decide +kernel
@[simp] theorem w_admission_exhaust : ((Str.ofString "admission") = Str.ofString "exhaust") = False := by
  apply eq_false
  decide +kernel
@[simp] theorem w_admission_closed : ((Str.ofString "admission") = Str.ofString "closed") = False := by
  apply eq_false
  decide +kernel
@[simp] theorem w_admission_side : ((Str.ofString "admission") = Str.ofString "side") = False := by
  apply eq_false
  decide +kernel
@[simp] theorem w_admission_and : ((Str.ofString "admission") = Str.ofString "and") = False := by
  apply eq_false
  decide +kernel
@[simp] theorem w_admission_or : ((Str.ofString "admission") = Str.ofString "or") = False := by
  apply eq_false
  decide +kernel
@[simp] theorem w_admission_not : ((Str.ofString "admission") = Str.ofString "not") = False := by
  apply eq_false
  decide +kernel
@[simp] theorem w_admission_all : ((Str.ofString "admission") = Str.ofString "all") = False := by
  apply eq_false
  decide +kernel
@[simp] theorem w_admission_crank : ((Str.ofString "admission") = Str.ofString "crank") = False := by
  apply eq_false
  decide +kernel
@[simp] theorem w_admission_head : ((Str.ofString "admission") = Str.ofString "head") = False := by
  apply eq_false
  decide +kernel
@[simp] theorem w_admission_cutoff : ((Str.ofString "admission") = Str.ofString "cutoff") = False := by
  apply eq_false
  decide +kernel
@[simp] theorem w_admission_release : ((Str.ofString "admission") = Str.ofString "release") = False := by
  apply eq_false
  decide +kernel
@[simp] theorem w_admission_compression : ((Str.ofString "admission") = Str.ofString "compression") = False := by
  apply eq_false
  decide +kernel
@[simp] theorem w_cutoff_both : ((Str.ofString "cutoff") = Str.ofString "both") = False := by
  apply eq_false
  decide +kernel
@[simp] theorem w_cutoff_steam : ((Str.ofString "cutoff") = Str.ofString "steam") = False := by
  apply eq_false
  decide +kernel
@[simp] theorem w_cutoff_exhaust : ((Str.ofString "cutoff") = Str.ofString "exhaust") = False := by
  apply eq_false
  decide +kernel
@[simp] theorem w_cutoff_closed : ((Str.ofString "cutoff") = Str.ofString "closed") = False := by
  apply eq_false
  decide +kernel
@[simp] theorem w_cutoff_side : ((Str.ofString "cutoff") = Str.ofString "side") = False := by
  apply eq_false
  decide +kernel
@[simp] theorem w_cutoff_and : ((Str.ofString "cutoff") = Str.ofString "and") = False := by
  apply eq_false
  decide +kernel
@[simp] theorem w_cutoff_or : ((Str.ofString "cutoff") = Str.ofString "or") = False := by
  apply eq_false
  decide +kernel
@[simp] theorem w_cutoff_not : ((Str.ofString "cutoff") = Str.ofString "not") = False := by
  apply eq_false
  decide +kernel
@[simp] theorem w_cutoff_all : ((Str.ofString "cutoff") = Str.ofString "all") = False := by
  apply eq_false
  decide +kernel
@[simp] theorem w_cutoff_crank : ((Str.ofString "cutoff") = Str.ofString "crank") = False := by
  apply eq_false
  decide +kernel
@[simp] theorem w_cutoff_head : ((Str.ofString "cutoff") = Str.ofString "head") = False := by
  apply eq_false
  decide +kernel
@[simp] theorem w_cutoff_admission : ((Str.ofString "cutoff") = Str.ofString "admission") = False := by
  apply eq_false
  decide +kernel
@[simp] theorem w_cutoff_release : ((Str.ofString "cutoff") = Str.ofString "release") = False := by
  apply eq_false
  decide +kernel
@[simp] theorem w_cutoff_compression : ((Str.ofString "cutoff") = Str.ofString "compression") = False := by
  apply eq_false
  decide +kernel
@[simp] theorem w_release_both : ((Str.ofString "release") = Str.ofString "both") = False := by
  apply eq_false
  decide +kernel
@[simp] theorem w_release_steam : ((Str.ofString "release") = Str.ofString "steam") = False := by
  apply eq_false
  decide +kernel
@[simp] theorem w_release_exhaust : ((Str.ofString "release") = Str.ofString "exhaust") = False := by
  apply eq_false
  decide +kernel
@[simp] theorem w_release_closed : ((Str.ofString "release") = Str.ofString "closed") = False := by
  apply eq_false
  decide +kernel
@[simp] theorem w_release_side : ((Str.ofString "release") = Str.ofString "side") = False := by
  apply eq_false
  decide +kernel
@[simp] theorem w_release_and : ((Str.ofString "release") = Str.ofString "and") = False := by
  apply eq_false
  decide +kernel
@[simp] theorem w_release_or : ((Str.ofString "release") = Str.ofString "or") = False := by
  apply eq_false
  decide +kernel
@[simp] theorem w_release_not : ((Str.ofString "release") = Str.ofString "not") = False := by
  apply eq_false
  decide +kernel
@[simp] theorem w_release_all : ((Str.ofString "release") = Str.ofString "all") = False := by
  apply eq_false
  decide +kernel
@[simp] theorem w_release_crank : ((Str.ofString "release") = Str.ofString "crank") = False := by
  apply eq_false
  decide +kernel
@[simp] theorem w_release_head : ((Str.ofString "release") = Str.ofString "head") = False := by
  apply eq_false
  decide +kernel
@[simp] theorem w_release_admission : ((Str.ofString "release") = Str.ofString "admission") = False := by
  apply eq_false
  decide +kernel
@[simp] theorem w_release_cutoff : ((Str.ofString "release") = Str.ofString "cutoff") = False := by
  apply eq_false
  decide +kernel
@[simp] theorem w_release_compression : ((Str.ofString "release") = Str.ofString "compression") = False := by
  apply eq_false
  decide +kernel
@[simp] theorem w_compression_both : ((Str.ofString "compression") = Str.ofString "both") = False := by
  apply eq_false
  decide +kernel
@[simp] theorem w_compression_steam : ((Str.ofString "compression") = Str.ofString "steam") = False := by
  apply eq_false
  decide +kernel
@[simp] theorem w_compression_exhaust : ((Str.ofString "compression") = Str.ofString "exhaust") = False := by
  apply eq_false
  decide +kernel
@[simp] theorem w_compression_closed : ((Str.ofString "compression") = Str.ofString "closed") = False := by
  apply eq_false
  decide +kernel
@[simp] theorem w_compression_side : ((Str.ofString "compression") = Str.ofString "side") = False := by
  apply eq_false
  decide +kernel
@[simp] theorem w_compression_and : ((Str.ofString "compression") = Str.ofString "and") = False := by
  apply eq_false
  decide +kernel
@[simp] theorem w_compression_or : ((Str.ofString "compression") = Str.ofString "or") = False := by
  apply eq_false
  decide +kernel
@[simp] theorem w_compression_not : ((Str.ofString "compression") = Str.ofString "not") = False := by
  apply eq_false
  decide +kernel
@[simp] theorem w_compression_all : ((Str.ofString "compression") = Str.ofString "all") = False := by
  apply eq_false
  decide +kernel
@[simp] theorem w_compression_crank : ((Str.ofString "compression") = Str.ofString "crank") = False := by
  apply eq_false
  decide +kernel
@[simp] theorem w_compression_head : ((Str.ofString "compression") = Str.ofString "head") = False := by
  apply eq_false
  decide +kernel
@[simp] theorem w_compression_admission : ((Str.ofString "compression") = Str.ofString "admission") = False := by
  apply eq_false
  decide +kernel
@[simp] theorem w_compression_cutoff : ((Str.ofString "compression") = Str.ofString "cutoff") = False := by
  apply eq_false
  decide +kernel
@[simp] theorem w_compression_release : ((Str.ofString "compression") = Str.ofString "release") = False := by
  apply eq_false
  decide +kernel
@[simp] theorem so_both : PyData.strOk (Str.ofString "both") = true := by decide +kernel
@[simp] theorem so_steam : PyData.strOk (Str.ofString "steam") = true := by decide +kernel
@[simp] theorem so_exhaust : PyData.strOk (Str.ofString "exhaust") = true := by decide +kernel
@[simp] theorem so_closed : PyData.strOk (Str.ofString "closed") = true := by decide +kernel
@[simp] theorem so_side : PyData.strOk (Str.ofString "side") = true := by decide +kernel
@[simp] theorem so_and : PyData.strOk (Str.ofString "and") = true := by decide +kernel
@[simp] theorem so_or : PyData.strOk (Str.ofString "or") = true := by decide +kernel
@[simp] theorem so_not : PyData.strOk (Str.ofString "not") = true := by decide +kernel
@[simp] theorem so_all : PyData.strOk (Str.ofString "all") = true := by decide +kernel
@[simp] theorem so_crank : PyData.strOk (Str.ofString "crank") = true := by decide +kernel
@[simp] theorem so_head : PyData.strOk (Str.ofString "head") = true := by decide +kernel
@[simp] theorem so_admission : PyData.strOk (Str.ofString "admission") = true := by decide +kernel
@[simp] theorem so_cutoff : PyData.strOk (Str.ofString "cutoff") = true := by decide +kernel
@[simp] theorem so_release : PyData.strOk (Str.ofString "release") = true := by decide +kernel
@[simp] theorem so_compression : PyData.strOk (Str.ofString "compression") = true := by decide +kernel
section
variable {Γ : Sm} {ρ : Env'}
theorem blsOf_map {α : Type} (xs : List α) (g : α → Bool) : blsOf (xs.map fun x => PyData.bool (g x)) = some (xs.map g) := by
  induction xs with
  | nil => rfl
  | cons x xs ih => simp [blsOf, ih]
/-- a for that neither stops nor looks at the store -/
theorem frW_rel {k : SK} {p : Pat} {b : List Sx} {ws : List W} {xs : List PyData} (R : List PyData → Env' → Prop) (hi : ∀ S, itemsOf k ws S = some (xs, [])) (hl : xs.length ≤ LIM) (h0 : R xs ρ)
    (step : ∀ x ys ρ, R (x :: ys) ρ → ∃ ρ1 ρ2, asg p x ρ = re ρ1 ∧ exSs Γ b ρ1 = re (.nx ρ2) ∧ R ys ρ2) : ∃ ρ', R [] ρ' ∧ frW Γ k p b ρ ws = re (.nx ρ') := by
  have key : ∀ (ys : List PyData) (ρ : Env'), R ys ρ → ∃ ρ', R [] ρ' ∧ ∀ S S', forE (asg p) (fun ρ => exSs Γ b ρ) S [] ys ρ S' = some (.ok (.nx ρ') S') := by
    intro ys
    induction ys with
    | nil =>
      intro ρ r
      refine ⟨ρ, r, fun S S' => ?_⟩
      rw [forE, staying_eq (fun j hj => by cases hj)]
      rfl
    | cons x ys ih =>
      intro ρ r
      obtain ⟨ρ1, ρ2, h1, h2, h3⟩ := step x ys ρ r
      obtain ⟨ρ', r', h4⟩ := ih ρ2 h3
      refine ⟨ρ', r', fun S S' => ?_⟩
      rw [forE, staying_eq (fun j hj => by cases hj), h1]
      simp only [bnd_re_]
      rw [h2]
      simp only [bnd_re_]
      exact h4 S S'
  obtain ⟨ρ', r', h⟩ := key xs ρ h0
  refine ⟨ρ', r', ?_⟩
  funext S
  unfold frW
  rw [hi]
  show (if xs.length ≤ LIM then _ else _) = _
  rw [if_pos hl]
  exact h S S
end
/-- one by one -/
inductive Al2 {α β : Type} (R : α → β → Prop) : List α → List β → Prop
  | nil : Al2 R [] []
  | cons {a : α} {b : β} {as : List α} {bs : List β} : R a b → Al2 R as bs → Al2 R (a :: as) (b :: bs)
section
variable {Γ : Sm} {ρ0 : Env'} {p : Pat} {e : Ex}
theorem cmGo_rel {S : Sto} {g : List Nat} : ∀ {xs ys : List PyData} (acc : List PyData), Al2 (fun x d => ∃ ρ', asg p x ρ0 S = some (.ok ρ' S) ∧ evE Γ e ρ' S = some (.ok (.d d) S)) xs ys → cmGo Γ p [] e S g ρ0 xs acc S = some (.ok (acc ++ ys) S)
  | _, _, acc, .nil => by
    unfold cmGo
    rw [compL, staying_eq (stay_refl S g), List.append_nil]
    rfl
  | x :: xs, d :: ys, acc, .cons ⟨ρ', h1, h2⟩ t => by
    have ih := cmGo_rel (g := g) (acc ++ [d]) t
    unfold cmGo at ih ⊢
    rw [compL, staying_eq (stay_refl S g)]
    simp only [bnd, h1, cnd_nil, re, if_true, h2, onD]
    have e2 : acc ++ d :: ys = (acc ++ [d]) ++ ys := by simp
    rw [e2]
    exact ih
theorem cmS_rel {k : SK} {ws : List W} {S : Sto} {g : List Nat} {xs ys : List PyData} (hi : itemsOf k ws S = some (xs, g)) (hl : xs.length ≤ LIM) (h : Al2 (fun x d => ∃ ρ', asg p x ρ0 S = some (.ok ρ' S) ∧ evE Γ e ρ' S = some (.ok (.d d) S)) xs ys) :
    cmW' Γ k p [] e ρ0 ws S = some (.ok (.d (.list ys)) S) := by
  unfold cmW'
  rw [hi]
  show (if xs.length ≤ LIM then _ else _) = _
  rw [if_pos hl]
  simp only [bnd, noexc, cmGo_rel (g := g) [] h, re, List.nil_append]
theorem Al2.imp {α β : Type} {R R' : α → β → Prop} (w : ∀ a b, R a b → R' a b) : ∀ {xs : List α} {ys : List β}, Al2 R xs ys → Al2 R' xs ys
  | _, _, .nil => .nil
  | _, _, .cons a t => .cons (w _ _ a) (t.imp w)
theorem cm_rel {k : SK} {ws : List W} {xs ys : List PyData} (hi : ∀ S, itemsOf k ws S = some (xs, [])) (hl : xs.length ≤ LIM) (h : Al2 (fun x d => ∃ ρ', asg p x ρ0 = re ρ' ∧ evE Γ e ρ' = re (.d d)) xs ys) :
    cmW' Γ k p [] e ρ0 ws = re (.d (.list ys)) := by
  funext S
  exact cmS_rel (hi S) hl (h.imp fun x d ⟨ρ', h1, h2⟩ => ⟨ρ', by rw [h1]; rfl, by rw [h2]; rfl⟩)
theorem cm2 {x y d1 d2 : PyData} {ρ1 ρ2 : Env'} (a1 : asg p x ρ0 = re ρ1) (e1 : evE Γ e ρ1 = re (.d d1)) (a2 : asg p y ρ0 = re ρ2) (e2 : evE Γ e ρ2 = re (.d d2)) :
    cmW' Γ .seq p [] e ρ0 [.d (.tuple [x, y])] = re (.d (.list [d1, d2])) := cm_rel (fun _ => rfl) (by show 2 ≤ 100000; decide) (.cons ⟨_, a1, e1⟩ (.cons ⟨_, a2, e2⟩ .nil))
end
def gcdL (xs : List Int) : Nat := xs.foldl (fun g x => Nat.gcd g x.natAbs) 0
end DL

namespace G20
open PySem PySem.Spec PyProof.Rows L2 DL
def top (i : Nat) : Stmt := PySem.Challenge.pw_steamgears_k20_whole_states_of_valves.main.body.getD i (.Pass ⟨0, 0, 0, 0⟩)
def dd (i : Nat) (x at_ : Str) : He.DefD := ⟨(at_, none), x, x, defArgs (top i), defBody (top i), defScope (top i), [], []⟩
def c_is_whole : List Sx := [
  .ret (.and [.isi "int" (.var 0), .not (.isi "bool" (.var 0))])]
def c_is_between : List Sx := [
  .ret (.and [.call 0 [.var 0], .chn .le .le (.var 1) (.var 0) (.var 2)])]
def c_are_wholes : List Sx := [
  .ret (.and [.isi "tuple" (.var 0), .cmp .eq (.blt .len [.var 0]) (.var 1), .blt .all [.cmpr .seq [.var 0] (.nm 2) [] (.call 0 [.var 2]) [2]]])]
def c_is_ratio : List Sx := [
  .ret (.and [.call 2 [.var 0, .cI 2], .cmp .gt (.idx (.var 0) (.cI 1)) (.cI 0), .cmp .eq (.blt .gcd [.idx (.var 0) (.cI 0), .idx (.var 0) (.cI 1)]) (.cI 1)])]
def c_common : List Sx := [
  .set 1 (.cI 0),
  .fors (.nm 2) .seq [.var 0] [.set 1 (.blt .gcd [.var 1, .var 2])],
  .ret (.var 1)]
def c_sign_of : List Sx := [
  .ret (.ite (.cmp .gt (.var 0) (.cI 0)) (.cI 1) (.ite (.cmp .lt (.var 0) (.cI 0)) (.neg (.cI 1)) (.cI 0)))]
def c_root_sign : List Sx := [
  .par [3, 4] [.call 5 [.var 0], .ite (.cmp .gt (.var 2) (.cI 0)) (.call 5 [.var 1]) (.cI 0)],
  .iff (.or [.cmp .eq (.var 3) (.cI 0), .cmp .eq (.var 4) (.cI 0), .cmp .eq (.var 3) (.var 4)]) [.ret (.ite (.cmp .ne (.var 3) (.cI 0)) (.var 3) (.var 4))] [],
  .ret (.bin .mul (.var 3) (.call 5 [.bin .sub (.bin .mul (.var 0) (.var 0)) (.bin .mul (.bin .mul (.var 1) (.var 1)) (.var 2))]))]
def c_product : List Sx := [
  .ret (.bin .add (.bin .mul (.idx (.var 1) (.cI 0)) (.idx (.var 2) (.cI 0))) (.bin .mul (.bin .mul (.var 0) (.idx (.var 1) (.cI 1))) (.idx (.var 2) (.cI 1))))]
def c_cross : List Sx := [
  .ret (.bin .sub (.bin .mul (.idx (.var 0) (.cI 0)) (.idx (.var 1) (.cI 1))) (.bin .mul (.idx (.var 0) (.cI 1)) (.idx (.var 1) (.cI 0))))]
def c_norm : List Sx := [
  .ret (.call 7 [.var 0, .var 1, .var 1])]
def c_is_angle : List Sx := [
  .iff (.or [.not (.call 2 [.var 0, .cI 4]), .not (.call 1 [.idx (.var 0) (.cI 0), .cI 1, .glo 0]), .cmp .ne (.call 4 [.slc (.var 0) true (.cI 1) false .cN]) (.cI 1)]) [.ret (.cB false)] [],
  .ret (.cmp .gt (.call 9 [.idx (.var 0) (.cI 0), .slc (.var 0) true (.cI 1) true (.cI 3)]) (.bin .mul (.idx (.var 0) (.cI 3)) (.idx (.var 0) (.cI 3))))]
def c_check_angle : List Sx := [
  .iff (.not (.call 10 [.var 0])) [.never] []]
def c_check_form_of : List Sx := [
  .iff (.cmp .ne (.idx (.var 0) (.cI 0)) (.var 1)) [.never] []]
def c_square_at : List Sx := [
  .ret (.bin .mul (.idx (.var 0) (.cI 0)) (.bin .sub (.call 9 [.idx (.var 0) (.cI 0), .slc (.var 0) true (.cI 1) true (.cI 3)]) (.bin .mul (.idx (.var 0) (.cI 3)) (.idx (.var 0) (.cI 3)))))]
def c_sign_at : List Sx := [
  .par [4, 5, 6] [.idx (.var 0) (.cI 0), .slc (.var 0) true (.cI 1) true (.cI 3), .idx (.var 0) (.cI 3)],
  .set 3 (.bin .sub (.bin .mul (.var 6) (.call 7 [.var 4, .var 5, .var 1])) (.bin .mul (.var 2) (.call 9 [.var 4, .var 5]))),
  .ret (.call 6 [.var 3, .neg (.call 8 [.var 5, .var 1]), .call 13 [.var 0]])]
def c_numbers_of : List Sx := [
  .ret (.bin .add (.bin .add (.idx (.var 0) (.cI 1)) (.idx (.var 0) (.cI 2))) (.slc (.var 0) true (.cI 3) false .cN))]
def c_is_port : List Sx := [
  .ret (.and [.call 0 [.var 0], .cmp .gt (.var 0) (.cI 0)])]
def c_is_valve : List Sx := [
  .iff (.or [.not (.isi "tuple" (.var 0)), .cmp .ne (.blt .len [.var 0]) (.cI 4), .not (.call 1 [.idx (.var 0) (.cI 0), .cI 1, .glo 0])]) [.ret (.cB false)] [],
  .iff (.or [.not (.call 2 [.idx (.var 0) (.cI 1), .cI 2]), .not (.call 2 [.idx (.var 0) (.cI 2), .cI 4]), .not (.call 16 [.idx (.var 0) (.cI 3)])]) [.ret (.cB false)] [],
  .ret (.cmp .eq (.call 4 [.call 15 [.var 0]]) (.cI 1))]
def c_check_valve : List Sx := [
  .iff (.not (.call 17 [.var 0])) [.never] []]
def c_check_end : List Sx := [
  .iff (.or [.not (.isi "str" (.var 0)), .cmp .nin (.var 0) (.glo 1)]) [.never] []]
def c_check_word : List Sx := [
  .iff (.or [.not (.isi "str" (.var 0)), .cmp .nin (.var 0) (.var 1)]) [.never] []]
def c_against : List Sx := [
  .ret (.tup [.neg (.idx (.var 0) (.cI 0)), .neg (.idx (.var 0) (.cI 1))])]
def c_sides_at : List Sx := [
  .par [2, 3] [.idx (.var 0) (.cI 1), .idx (.var 0) (.cI 2)],
  .iff (.cmp .eq (.var 1) (.cS "head")) [.ret (.tup [.tup [.var 2, .idx (.var 3) (.cI 0)], .tup [.call 21 [.var 2], .idx (.var 3) (.cI 1)]])] [],
  .ret (.tup [.tup [.call 21 [.var 2], .idx (.var 3) (.cI 2)], .tup [.var 2, .idx (.var 3) (.cI 3)]])]
def c_word_of : List Sx := [
  .iff (.var 0) [.ret (.ite (.var 1) (.cS "both") (.cS "steam"))] [],
  .ret (.ite (.var 1) (.cS "exhaust") (.cS "closed"))]
def c_state_of : List Sx := [
  .asgn (.tp [.nm 3, .nm 4]) (.call 22 [.var 0, .var 1]),
  .ret (.call 23 [.cmp .gt (.call 14 [.var 2, .idx (.var 3) (.cI 0), .idx (.var 3) (.cI 1)]) (.cI 0), .cmp .gt (.call 14 [.var 2, .idx (.var 4) (.cI 0), .idx (.var 4) (.cI 1)]) (.cI 0)])]
def c_region_of_state : List Sx := [
  .asgn (.tp [.nm 5, .nm 6]) (.cmpr .seq [.call 22 [.var 0, .var 1]] (.tp [.nm 7, .nm 8]) [] (.tup [.cS "side", .var 7, .var 8]) [7, 8]),
  .set 3 (.ite (.cmp .inn (.var 2) (.tup [.cS "steam", .cS "both"])) (.var 5) (.tup [.cS "not", .var 5])),
  .set 4 (.ite (.cmp .inn (.var 2) (.tup [.cS "exhaust", .cS "both"])) (.var 6) (.tup [.cS "not", .var 6])),
  .ret (.tup [.idx (.var 0) (.cI 0), .tup [.cS "and", .tup [.var 3, .var 4]]])]
def c_state_at : List Sx := [
  .exp (.call 18 [.var 0]),
  .exp (.call 19 [.var 1]),
  .exp (.call 11 [.var 2]),
  .exp (.call 12 [.var 2, .idx (.var 0) (.cI 0)]),
  .ret (.call 24 [.var 0, .var 1, .var 2])]
def c_state_region : List Sx := [
  .exp (.call 18 [.var 0]),
  .exp (.call 19 [.var 1]),
  .exp (.call 20 [.var 2, .glo 2]),
  .ret (.call 25 [.var 0, .var 1, .var 2])]
def c_is_side : List Sx := [
  .ret (.and [.cmp .eq (.blt .len [.var 0]) (.cI 3), .call 2 [.idx (.var 0) (.cI 1), .cI 2], .call 0 [.idx (.var 0) (.cI 2)]])]
def c_are_trees : List Sx := [
  .ret (.and [.isi "tuple" (.var 0), .chn .le .le (.cI 1) (.blt .len [.var 0]) (.glo 3)])]
def c_sides_in : List Sx := [
  .iff (.or [.cmp .eq (.var 1) (.cI 0), .not (.isi "tuple" (.var 0)), .cmp .eq (.var 0) (.tup []), .not (.isi "str" (.idx (.var 0) (.cI 0)))]) [.ret (.bin .add (.glo 4) (.cI 1))] [],
  .iff (.cmp .eq (.var 0) (.tup [.cS "all"])) [.ret (.cI 0)] [],
  .iff (.cmp .eq (.idx (.var 0) (.cI 0)) (.cS "side")) [.ret (.ite (.call 28 [.var 0]) (.cI 1) (.bin .add (.glo 4) (.cI 1)))] [],
  .iff (.and [.cmp .eq (.idx (.var 0) (.cI 0)) (.cS "not"), .cmp .eq (.blt .len [.var 0]) (.cI 2)]) [.ret (.call 30 [.idx (.var 0) (.cI 1), .bin .sub (.var 1) (.cI 1)])] [],
  .iff (.or [.cmp .nin (.idx (.var 0) (.cI 0)) (.tup [.cS "and", .cS "or"]), .cmp .ne (.blt .len [.var 0]) (.cI 2), .not (.call 29 [.idx (.var 0) (.cI 1)])]) [.ret (.bin .add (.glo 4) (.cI 1))] [],
  .ret (.blt .sum [.cmpr .seq [.idx (.var 0) (.cI 1)] (.nm 2) [] (.call 30 [.var 2, .bin .sub (.var 1) (.cI 1)]) [2]])]
def c_is_region : List Sx := [
  .iff (.or [.not (.isi "tuple" (.var 0)), .cmp .ne (.blt .len [.var 0]) (.cI 2), .not (.call 1 [.idx (.var 0) (.cI 0), .cI 1, .glo 0])]) [.ret (.cB false)] [],
  .ret (.cmp .le (.call 30 [.idx (.var 0) (.cI 1), .glo 5]) (.glo 4))]
def c_check_region : List Sx := [
  .iff (.not (.call 31 [.var 0])) [.never] []]
def c_lies_in : List Sx := [
  .iff (.cmp .eq (.idx (.var 0) (.cI 0)) (.cS "side")) [.ret (.cmp .gt (.call 14 [.var 1, .idx (.var 0) (.cI 1), .idx (.var 0) (.cI 2)]) (.cI 0))] [],
  .iff (.cmp .eq (.idx (.var 0) (.cI 0)) (.cS "all")) [.ret (.cB true)] [],
  .iff (.cmp .eq (.idx (.var 0) (.cI 0)) (.cS "not")) [.ret (.not (.call 33 [.idx (.var 0) (.cI 1), .var 1]))] [],
  .setC 2 (.cmpr .seq [.idx (.var 0) (.cI 1)] (.nm 3) [] (.call 33 [.var 3, .var 1]) [3]),
  .ret (.ite (.cmp .eq (.idx (.var 0) (.cI 0)) (.cS "and")) (.blt .all [.var 2]) (.blt .any [.var 2]))]
def c_holds : List Sx := [
  .exp (.call 32 [.var 0]),
  .exp (.call 11 [.var 1]),
  .exp (.call 12 [.var 1, .idx (.var 0) (.cI 0)]),
  .ret (.call 33 [.idx (.var 0) (.cI 1), .var 1])]
def c_times : List Sx := [
  .ret (.tup [.bin .mul (.idx (.var 0) (.cI 0)) (.var 1), .bin .mul (.idx (.var 0) (.cI 1)) (.var 1)])]
def c_check_slack : List Sx := [
  .iff (.or [.not (.call 3 [.var 0]), .cmp .lt (.idx (.var 0) (.cI 0)) (.cI 0)]) [.never] []]
def c_side_less : List Sx := [
  .asgn (.tp [.nm 3, .nm 4]) (.var 0),
  .ret (.tup [.cS "side", .call 35 [.var 3, .idx (.var 1) (.cI 1)], .bin .add (.bin .mul (.var 4) (.idx (.var 1) (.cI 1))) (.bin .mul (.var 2) (.idx (.var 1) (.cI 0)))])]
def c_not_in : List Sx := [
  .ret (.tup [.cS "not", .var 0])]
def c_sure_tree : List Sx := [
  .asgn (.tp [.nm 6, .nm 7]) (.call 22 [.var 0, .var 1]),
  .set 4 (.ite (.cmp .inn (.var 2) (.tup [.cS "steam", .cS "both"])) (.call 37 [.var 6, .var 3, .cI 1]) (.call 38 [.call 37 [.var 6, .var 3, .neg (.cI 1)]])),
  .set 5 (.ite (.cmp .inn (.var 2) (.tup [.cS "exhaust", .cS "both"])) (.call 37 [.var 7, .var 3, .cI 1]) (.call 38 [.call 37 [.var 7, .var 3, .neg (.cI 1)]])),
  .ret (.tup [.cS "and", .tup [.var 4, .var 5]])]
def c_possible_tree : List Sx := [
  .asgn (.tp [.nm 7, .nm 8]) (.call 22 [.var 0, .var 1]),
  .set 4 (.cmp .lt (.bin .add (.idx (.var 7) (.cI 1)) (.idx (.var 8) (.cI 1))) (.cI 0)),
  .iff (.or [.and [.cmp .eq (.var 2) (.cS "both"), .not (.var 4)], .and [.cmp .eq (.var 2) (.cS "closed"), .var 4]]) [.ret (.glo 6)] [],
  .set 5 (.ite (.cmp .inn (.var 2) (.tup [.cS "steam", .cS "both"])) (.call 37 [.var 7, .var 3, .neg (.cI 1)]) (.call 38 [.call 37 [.var 7, .var 3, .cI 1]])),
  .set 6 (.ite (.cmp .inn (.var 2) (.tup [.cS "exhaust", .cS "both"])) (.call 37 [.var 8, .var 3, .neg (.cI 1)]) (.call 38 [.call 37 [.var 8, .var 3, .cI 1]])),
  .ret (.tup [.cS "and", .tup [.var 5, .var 6]])]
def c_sure_region : List Sx := [
  .exp (.call 18 [.var 0]),
  .exp (.call 19 [.var 1]),
  .exp (.call 20 [.var 2, .glo 2]),
  .exp (.call 36 [.var 3]),
  .ret (.tup [.idx (.var 0) (.cI 0), .call 39 [.var 0, .var 1, .var 2, .var 3]])]
def c_possible_region : List Sx := [
  .exp (.call 18 [.var 0]),
  .exp (.call 19 [.var 1]),
  .exp (.call 20 [.var 2, .glo 2]),
  .exp (.call 36 [.var 3]),
  .ret (.tup [.idx (.var 0) (.cI 0), .call 40 [.var 0, .var 1, .var 2, .var 3]])]
def c__law_well : List Sx := [
  .set 2 (.bin .add (.cI 70001) (.bin .mul (.cI 3001) (.var 1))),
  .fors (.nm 3) .seq [.slc (.var 0) false .cN true (.cI 63)] [.set 2 (.bin .mod (.blt .int [.bin .add (.bin .add (.bin .mul (.var 2) (.cI 52021)) (.bin .mod (.blt .int [.var 3]) (.cI 2147483587))) (.cI 101)]) (.cI 2147483587))],
  .set 4 (.ite (.cmp .lt (.var 1) (.blt .len [.var 0])) (.blt .int [.idx (.var 0) (.var 1)]) (.var 2)),
  .set 5 (.ite (.or [.cmp .lt (.var 4) (.cI 0), .cmp .ge (.var 4) (.bin .pow (.cI 10) (.cI 18))]) (.blt .abs [.var 4]) (.cI 0)),
  .retL (.lstL [.var 5, .bin .mod (.blt .int [.bin .add (.bin .add (.bin .mul (.var 2) (.cI 30323)) (.bin .mul (.bin .mod (.blt .int [.var 4]) (.cI 2147483587)) (.cI 9001))) (.cI 5)]) (.cI 2147483587), .cI 0])]
def c__law_draw : List Sx := [
  .iff (.cmp .gt (.idx (.var 0) (.cI 0)) (.cI 0)) [.asgn (.tp [.sb 0 0, .nm 3]) (.blt .divmod [.idx (.var 0) (.cI 0), .var 1]), .ret (.var 3)] [],
  .asgn (.sb 0 2) (.bin .add (.idx (.var 0) (.cI 2)) (.cI 1)),
  .set 2 (.bin .add (.bin .mod (.blt .int [.idx (.var 0) (.cI 1)]) (.cI 8009)) (.cI 31013)),
  .asgn (.sb 0 1) (.bin .mod (.blt .int [.bin .add (.bin .add (.bin .mul (.idx (.var 0) (.cI 1)) (.var 2)) (.bin .mul (.cI 60101) (.idx (.var 0) (.cI 2)))) (.cI 23)]) (.cI 2147483587)),
  .ret (.bin .mod (.blt .int [.bin .fdiv (.idx (.var 0) (.cI 1)) (.cI 59)]) (.var 1))]
def c__law_pick : List Sx := [
  .ret (.idx (.var 1) (.call 44 [.var 0, .blt .len [.var 1]]))]
def c__law_rounds : List Sx := [
  .ret (.blt .max [.cI 2, .blt .min [.blt .len [.var 0], .cI 3]])]
def c__law_common : List Sx := [
  .par [2, 3] [.blt .abs [.var 0], .blt .abs [.var 1]],
  .whl (.cmp .gt (.var 3) (.cI 0)) [.par [2, 3] [.var 3, .bin .mod (.blt .int [.var 2]) (.var 3)]],
  .ret (.var 2)]
def c__law_number : List Sx := [
  .set 1 (.call 45 [.var 0, .tup [.cI 1, .cI 2, .cI 3, .cI 5, .cI 5, .cI 9, .cI 400, .cI 0]]),
  .iff (.cmp .gt (.var 1) (.cI 0)) [.ret (.bin .sub (.call 44 [.var 0, .bin .add (.bin .mul (.cI 2) (.var 1)) (.cI 1)]) (.var 1))] [],
  .ret (.bin .mul (.bin .add (.bin .mul (.call 44 [.var 0, .cI 999983]) (.cI 999983)) (.call 44 [.var 0, .cI 999983])) (.bin .sub (.cI 1) (.bin .mul (.cI 2) (.call 44 [.var 0, .cI 2]))))]
def c__law_sign : List Sx := [
  .ret (.ite (.cmp .gt (.var 0) (.cI 0)) (.cI 1) (.ite (.cmp .eq (.var 0) (.cI 0)) (.cI 0) (.neg (.cI 1))))]
def c__law_sign_of_two : List Sx := [
  .par [3, 4] [.call 49 [.var 0], .ite (.cmp .gt (.var 2) (.cI 0)) (.call 49 [.var 1]) (.cI 0)],
  .iff (.cmp .ge (.bin .mul (.var 3) (.var 4)) (.cI 0)) [.ret (.ite (.cmp .ne (.var 3) (.cI 0)) (.var 3) (.var 4))] [],
  .ret (.bin .mul (.var 3) (.call 49 [.bin .sub (.bin .mul (.var 0) (.var 0)) (.bin .mul (.bin .mul (.var 2) (.var 1)) (.var 1))]))]
def c__law_norm : List Sx := [
  .ret (.bin .add (.bin .mul (.idx (.var 1) (.cI 0)) (.idx (.var 1) (.cI 0))) (.bin .mul (.bin .mul (.var 0) (.idx (.var 1) (.cI 1))) (.idx (.var 1) (.cI 1))))]
def c__law_reduced : List Sx := [
  .set 1 (.cI 0),
  .fors (.nm 2) .seq [.var 0] [.set 1 (.call 47 [.var 1, .var 2])],
  .ret (.blt .tuple [.cmpr .seq [.var 0] (.nm 2) [] (.bin .fdiv (.var 2) (.var 1)) [2]])]
def c__law_root : List Sx := [
  .par [1, 2] [.cI 0, .bin .add (.var 0) (.cI 1)],
  .whl (.cmp .gt (.bin .sub (.var 2) (.var 1)) (.cI 1)) [.set 3 (.bin .fdiv (.bin .add (.var 1) (.var 2)) (.cI 2)), .asgn (.tp [.nm 1, .nm 2]) (.ite (.cmp .le (.bin .mul (.var 3) (.var 3)) (.var 0)) (.tup [.var 3, .var 2]) (.tup [.var 1, .var 3]))],
  .ret (.var 1)]
def c__law_vector : List Sx := [
  .par [1, 2] [.call 48 [.var 0], .call 48 [.var 0]],
  .ret (.ite (.or [.cmp .ne (.var 1) (.cI 0), .cmp .ne (.var 2) (.cI 0)]) (.tup [.var 1, .var 2]) (.tup [.cI 1, .bin .sub (.call 44 [.var 0, .cI 3]) (.cI 1)]))]
def c__law_arrow : List Sx := [
  .asgn (.tp [.nm 2, .nm 3, .nm 4, .nm 5]) (.var 0),
  .set 1 (.call 51 [.var 2, .tup [.var 3, .var 4]]),
  .ret (.tup [.tup [.bin .mul (.var 5) (.var 3), .var 4], .tup [.bin .mul (.bin .mul (.var 2) (.var 5)) (.var 4), .bin .sub (.cI 0) (.var 3)], .bin .mul (.var 2) (.bin .sub (.var 1) (.bin .mul (.var 5) (.var 5))), .var 1])]
def c__law_side : List Sx := [
  .asgn (.tp [.nm 4, .nm 5, .nm 6, .nm 7]) (.call 55 [.var 0]),
  .set 3 (.bin .sub (.bin .add (.bin .mul (.idx (.var 4) (.cI 0)) (.idx (.var 1) (.cI 0))) (.bin .mul (.idx (.var 5) (.cI 0)) (.idx (.var 1) (.cI 1)))) (.bin .mul (.var 2) (.var 7))),
  .ret (.call 50 [.var 3, .bin .add (.bin .mul (.idx (.var 4) (.cI 1)) (.idx (.var 1) (.cI 0))) (.bin .mul (.idx (.var 5) (.cI 1)) (.idx (.var 1) (.cI 1))), .var 6])]
def c__law_angle_at : List Sx := [
  .set 3 (.call 53 [.call 51 [.var 0, .var 1]]),
  .par [5, 6] [.bin .add (.bin .mul (.idx (.var 1) (.cI 0)) (.idx (.var 2) (.cI 0))) (.bin .mul (.bin .mul (.var 0) (.idx (.var 1) (.cI 1))) (.idx (.var 2) (.cI 1))), .bin .sub (.bin .mul (.idx (.var 1) (.cI 0)) (.idx (.var 2) (.cI 1))) (.bin .mul (.idx (.var 1) (.cI 1)) (.idx (.var 2) (.cI 0)))],
  .iff (.cmp .eq (.var 6) (.cI 0)) [.ret (.cN)] [],
  .set 4 (.ite (.cmp .gt (.var 6) (.cI 0)) (.cI 1) (.neg (.cI 1))),
  .ret (.bin .add (.tup [.var 0]) (.call 52 [.tup [.bin .mul (.bin .mul (.var 4) (.var 3)) (.idx (.var 2) (.cI 0)), .bin .mul (.bin .mul (.var 4) (.var 3)) (.idx (.var 2) (.cI 1)), .bin .mul (.var 4) (.var 5)]]))]
def c__law_whole_way : List Sx := [
  .par [2, 3] [.call 48 [.var 0], .call 48 [.var 0]],
  .par [4, 5] [.bin .sub (.bin .mul (.var 2) (.var 2)) (.bin .mul (.bin .mul (.var 1) (.var 3)) (.var 3)), .bin .mul (.bin .mul (.cI 2) (.var 2)) (.var 3)],
  .ret (.ite (.or [.cmp .ne (.var 4) (.cI 0), .cmp .ne (.var 5) (.cI 0)]) (.call 52 [.tup [.var 4, .var 5]]) (.tup [.cI 1, .cI 0]))]
def c__law_angle : List Sx := [
  .par [4, 5] [.call 44 [.var 0, .cI 6], .call 54 [.var 0]],
  .iff (.cmp .eq (.var 4) (.cI 0)) [.ret (.bin .add (.tup [.var 1]) (.call 52 [.tup [.bin .sub (.cI 0) (.bin .mul (.var 1) (.idx (.var 5) (.cI 1))), .idx (.var 5) (.cI 0), .cI 0]]))] [],
  .iff (.cmp .eq (.var 4) (.cI 1)) [.set 6 (.call 57 [.var 1, .call 58 [.var 0, .var 1], .var 5]), .ret (.ite (.cmp .isnt (.var 6) (.cN)) (.var 6) (.tup [.var 1, .cI 0, .cI 1, .cI 0]))] [],
  .set 2 (.call 53 [.bin .sub (.call 51 [.var 1, .var 5]) (.cI 1)]),
  .set 3 (.ite (.cmp .eq (.var 4) (.cI 2)) (.bin .mul (.var 2) (.bin .sub (.cI 1) (.bin .mul (.cI 2) (.call 44 [.var 0, .cI 2])))) (.bin .sub (.call 44 [.var 0, .bin .add (.bin .mul (.cI 2) (.var 2)) (.cI 1)]) (.var 2))),
  .ret (.bin .add (.tup [.var 1]) (.call 52 [.bin .add (.var 5) (.tup [.var 3])]))]
def c__law_valve : List Sx := [
  .par [4, 5] [.call 44 [.var 0, .cI 7], .call 54 [.var 0]],
  .iff (.cmp .eq (.var 4) (.cI 0)) [.set 5 (.tup [.cI 0, .cI 0])] [],
  .iff (.or [.cmp .eq (.var 4) (.cI 1), .cmp .eq (.var 4) (.cI 2)]) [.par [9, 10] [.call 58 [.var 0, .var 1], .bin .add (.cI 1) (.call 44 [.var 0, .cI 3])], .set 5 (.tup [.bin .mul (.var 10) (.idx (.var 9) (.cI 0)), .bin .mul (.var 10) (.idx (.var 9) (.cI 1))])] [],
  .par [6, 7] [.call 53 [.call 51 [.var 1, .var 5]], .lstL []],
  .fors (.nm 2) .rng1 [.cI 4] [.set 8 (.bin .sub (.call 44 [.var 0, .bin .add (.bin .mul (.cI 2) (.var 6)) (.cI 1)]) (.var 6)), .app 7 (.call 45 [.var 0, .tup [.var 8, .var 8, .var 8, .bin .fdiv (.var 8) (.cI 3), .cI 0, .var 6, .bin .sub (.cI 0) (.var 6), .bin .add (.var 6) (.cI 1), .bin .sub (.bin .sub (.cI 0) (.var 6)) (.cI 1)]])],
  .set 3 (.call 52 [.bin .add (.bin .add (.var 5) (.blt .tuple [.var 7])) (.tup [.bin .add (.cI 1) (.blt .abs [.call 48 [.var 0]])])]),
  .ret (.tup [.var 1, .slc (.var 3) false .cN true (.cI 2), .slc (.var 3) true (.cI 2) true (.cI 6), .idx (.var 3) (.cI 6)])]
def c__law_state : List Sx := [
  .asgn (.tp [.nm 3, .nm 4, .tp [.nm 6, .nm 7, .nm 8, .nm 9], .nm 5]) (.var 0),
  .iff (.cmp .eq (.var 1) (.cS "head")) [.par [10, 11] [.cmp .gt (.call 56 [.var 2, .var 4, .var 6]) (.cI 0), .cmp .lt (.call 56 [.var 2, .var 4, .bin .sub (.cI 0) (.var 7)]) (.cI 0)]] [.par [10, 11] [.cmp .lt (.call 56 [.var 2, .var 4, .bin .sub (.cI 0) (.var 8)]) (.cI 0), .cmp .gt (.call 56 [.var 2, .var 4, .var 9]) (.cI 0)]],
  .iff (.var 10) [.ret (.ite (.var 11) (.cS "both") (.cS "steam"))] [],
  .ret (.ite (.var 11) (.cS "exhaust") (.cS "closed"))]
def c__law_plans : List Sx := [
  .asgn (.tp [.nm 3, .nm 4, .nm 5, .nm 6]) (.idx (.var 0) (.cI 2)),
  .set 1 (.lst [.tup [.cS "head", .cS "admission", .var 3, .cB true], .tup [.cS "head", .cS "cutoff", .var 3, .cB false]]),
  .set 1 (.bin .add (.var 1) (.lst [.tup [.cS "head", .cS "release", .bin .sub (.cI 0) (.var 4), .cB false], .tup [.cS "head", .cS "compression", .bin .sub (.cI 0) (.var 4), .cB true]])),
  .set 2 (.lst [.tup [.cS "crank", .cS "admission", .bin .sub (.cI 0) (.var 5), .cB false], .tup [.cS "crank", .cS "cutoff", .bin .sub (.cI 0) (.var 5), .cB true]]),
  .ret (.bin .add (.bin .add (.var 1) (.var 2)) (.lst [.tup [.cS "crank", .cS "release", .var 6, .cB true], .tup [.cS "crank", .cS "compression", .var 6, .cB false]]))]
def c__law_events : List Sx := [
  .par [1, 2, 3] [.idx (.var 0) (.cI 0), .idx (.var 0) (.cI 1), .lstL []],
  .fors (.tp [.nm 4, .nm 5, .nm 6, .nm 7]) .seq [.call 62 [.var 0]] [.iff (.cmp .lt (.bin .mul (.var 6) (.var 6)) (.call 51 [.var 1, .var 2])) [.asgn (.tp [.nm 8, .nm 9, .nm 10]) (.call 52 [.bin .add (.var 2) (.tup [.var 6])]), .app 3 (.tup [.var 4, .var 5, .ite (.var 7) (.tup [.var 1, .var 8, .var 9, .var 10]) (.tup [.var 1, .bin .sub (.cI 0) (.var 8), .bin .sub (.cI 0) (.var 9), .bin .sub (.cI 0) (.var 10)])])] []],
  .ret (.var 3)]
def c__law_moved : List Sx := [
  .asgn (.tp [.nm 2, .tp [.nm 6, .nm 7], .tp [.nm 8, .nm 9, .nm 10, .nm 11], .nm 3]) (.var 0),
  .asgn (.tp [.nm 4, .nm 5]) (.var 1),
  .ret (.tup [.var 2, .tup [.bin .mul (.var 5) (.var 6), .bin .mul (.var 5) (.var 7)], .tup [.bin .sub (.bin .mul (.var 5) (.var 8)) (.var 4), .bin .add (.bin .mul (.var 5) (.var 9)) (.var 4), .bin .add (.bin .mul (.var 5) (.var 10)) (.var 4), .bin .sub (.bin .mul (.var 5) (.var 11)) (.var 4)], .var 3])]
def c__law_slack : List Sx := [
  .asgn (.tp [.nm 3, .nm 4, .nm 5, .nm 6]) (.idx (.var 1) (.cI 2)),
  .set 2 (.tup [.tup [.cI 0, .cI 1], .tup [.blt .abs [.bin .add (.var 3) (.var 4)], .cI 1], .tup [.blt .abs [.bin .add (.var 3) (.var 4)], .cI 2], .tup [.blt .abs [.call 48 [.var 0]], .bin .add (.cI 1) (.call 44 [.var 0, .cI 5])], .tup [.cI 1, .cI 7]]),
  .ret (.call 52 [.call 45 [.var 0, .var 2]])]
def c__law_states_within : List Sx := [
  .asgn (.tp [.nm 5, .nm 6]) (.cmpr .seq [.tup [.neg (.cI 1), .cI 1]] (.nm 11) [] (.call 61 [.call 64 [.var 0, .tup [.bin .mul (.var 11) (.idx (.var 3) (.cI 0)), .idx (.var 3) (.cI 1)]], .var 1, .var 2]) [11]),
  .asgn (.tp [.nm 7, .nm 8, .nm 9, .nm 10]) (.idx (.var 0) (.cI 2)),
  .set 4 (.ite (.cmp .lt (.ite (.cmp .eq (.var 1) (.cS "head")) (.bin .add (.var 7) (.var 8)) (.bin .add (.var 9) (.var 10))) (.cI 0)) (.cS "both") (.cS "closed")),
  .ret (.bin .add (.lst [.var 5, .var 6]) (.ite (.cmp .eq (.blt .sortedS [.lst [.var 5, .var 6]]) (.lst [.cS "exhaust", .cS "steam"])) (.lst [.var 4]) (.lst [])))]
def c__law_slack_right : List Sx := [
  .asgn (.tp [.nm 5, .nm 6, .tp [.nm 11, .nm 12]]) (.tup [.call 65 [.var 0, .var 1], .idx (.var 1) (.cI 0), .idx (.var 1) (.cI 1)]),
  .asgn (.tp [.nm 7, .nm 8]) (.var 5),
  .fors (.nm 3) .seq [.tup [.idx (.idx (.var 1) (.cI 2)) (.cI 0), .bin .sub (.cI 0) (.idx (.idx (.var 1) (.cI 2)) (.cI 1)), .bin .sub (.cI 0) (.idx (.idx (.var 1) (.cI 2)) (.cI 2)), .idx (.idx (.var 1) (.cI 2)) (.cI 3)]] [.fors (.nm 9) .seq [.tup [.bin .sub (.bin .mul (.var 8) (.var 3)) (.var 7), .bin .add (.bin .mul (.var 8) (.var 3)) (.var 7)]] [.iff (.cmp .lt (.bin .mul (.var 9) (.var 9)) (.bin .mul (.bin .mul (.var 8) (.var 8)) (.call 51 [.var 6, .tup [.var 11, .var 12]]))) [.asgn (.tp [.nm 18, .nm 19, .nm 20]) (.call 52 [.tup [.bin .mul (.var 8) (.var 11), .bin .mul (.var 8) (.var 12), .var 9]]), .set 2 (.bin .add (.var 2) (.lst [.tup [.var 6, .var 18, .var 19, .var 20], .tup [.var 6, .bin .sub (.cI 0) (.var 18), .bin .sub (.cI 0) (.var 19), .bin .sub (.cI 0) (.var 20)]]))] []]],
  .fors (.nm 4) .seq [.tup [.cS "head", .cS "crank"]] [.fors (.nm 10) .seq [.tup [.cS "steam", .cS "exhaust", .cS "both", .cS "closed"]] [.set 13 (.call 41 [.var 1, .var 4, .var 10, .var 5]), .set 14 (.callK 42 0 [3, 2, 1, 0] [.var 5, .var 10, .var 4, .var 1]), .iff (.or [.cmp .isnt (.call 31 [.var 13]) (.cB true), .cmp .isnt (.call 31 [.var 14]) (.cB true), .cmp .ne (.idx (.var 13) (.cI 0)) (.var 6), .cmp .ne (.idx (.var 14) (.cI 0)) (.var 6)]) [.ret (.cB false)] [], .fors (.nm 15) .seq [.var 2] [.set 16 (.call 66 [.var 1, .var 4, .var 15, .var 5]), .set 17 (.lst [.cmp .eq (.var 16) (.lst [.var 10, .var 10]), .cmp .inn (.var 10) (.var 16)]), .iff (.cmp .ne (.rpr (.lst [.call 34 [.var 13, .var 15], .call 34 [.var 14, .var 15]])) (.rpr (.var 17))) [.ret (.cB false)] []]]],
  .ret (.cB true)]
def c__law_right : List Sx := [
  .set 1 (.call 45 [.var 0, .tup [.cI 1, .cI 2, .cI 3]]),
  .set 2 (.call 60 [.var 0, .var 1]),
  .set 3 (.bin .add (.lst [.call 59 [.var 0, .var 1], .call 59 [.var 0, .var 1]]) (.slc (.cmpr .seq [.call 63 [.var 2]] (.nm 10) [] (.idx (.var 10) (.cI 2)) [10]) false .cN true (.cI 4))),
  .iff (.cmp .isnt (.call 17 [.var 2]) (.cB true)) [.ret (.cB false)] [],
  .fors (.nm 4) .seq [.tup [.cS "head", .cS "crank"]] [.set 5 (.lstL []), .fors (.nm 6) .seq [.tup [.cS "steam", .cS "exhaust", .cS "both", .cS "closed"]] [.app 5 (.call 27 [.var 2, .var 4, .var 6]), .iff (.or [.cmp .isnt (.call 31 [.idx (.var 5) (.neg (.cI 1))]) (.cB true), .cmp .ne (.idx (.idx (.var 5) (.neg (.cI 1))) (.cI 0)) (.var 1)]) [.ret (.cB false)] []], .iff (.cmp .ne (.callK 27 0 [2, 1, 0] [.cS "both", .var 4, .var 2]) (.idx (.var 5) (.cI 2))) [.ret (.cB false)] [], .fors (.nm 7) .seq [.var 3] [.set 8 (.call 61 [.var 2, .var 4, .var 7]), .iff (.cmp .ne (.rpr (.lst [.call 26 [.var 2, .var 4, .var 7], .callK 26 0 [2, 1, 0] [.var 7, .var 4, .var 2]])) (.rpr (.lst [.var 8, .var 8]))) [.ret (.cB false)] [], .setC 9 (.cmpr .seq [.var 5] (.nm 11) [] (.call 34 [.var 11, .var 7]) [11]), .iff (.cmp .ne (.rpr (.var 9)) (.rpr (.cmpr .seq [.tup [.cS "steam", .cS "exhaust", .cS "both", .cS "closed"]] (.nm 6) [] (.cmp .eq (.var 8) (.var 6)) [6]))) [.ret (.cB false)] []]],
  .ret (.call 67 [.var 0, .var 2, .var 3])]
def c_law : List Sx := [
  .fors (.nm 1) .rng1 [.call 46 [.var 0]] [.iffT (.not (.call 68 [.call 43 [.var 0, .var 1]])) [.ret (.cB false)] []],
  .ret (.cB true)]
def fns : List FD := [⟨1, 1, c_is_whole⟩, ⟨3, 3, c_is_between⟩, ⟨2, 3, c_are_wholes⟩, ⟨1, 1, c_is_ratio⟩, ⟨1, 3, c_common⟩, ⟨1, 1, c_sign_of⟩, ⟨3, 5, c_root_sign⟩, ⟨3, 3, c_product⟩, ⟨2, 2, c_cross⟩, ⟨2, 2, c_norm⟩, ⟨1, 1, c_is_angle⟩, ⟨1, 1, c_check_angle⟩, ⟨2, 2, c_check_form_of⟩, ⟨1, 1, c_square_at⟩, ⟨3, 7, c_sign_at⟩, ⟨1, 1, c_numbers_of⟩, ⟨1, 1, c_is_port⟩, ⟨1, 1, c_is_valve⟩, ⟨1, 1, c_check_valve⟩, ⟨1, 1, c_check_end⟩, ⟨2, 2, c_check_word⟩, ⟨1, 1, c_against⟩, ⟨2, 4, c_sides_at⟩, ⟨2, 2, c_word_of⟩, ⟨3, 5, c_state_of⟩, ⟨3, 9, c_region_of_state⟩, ⟨3, 3, c_state_at⟩, ⟨3, 3, c_state_region⟩, ⟨1, 1, c_is_side⟩, ⟨1, 1, c_are_trees⟩, ⟨2, 3, c_sides_in⟩, ⟨1, 1, c_is_region⟩, ⟨1, 1, c_check_region⟩, ⟨2, 4, c_lies_in⟩, ⟨2, 2, c_holds⟩, ⟨2, 2, c_times⟩, ⟨1, 1, c_check_slack⟩, ⟨3, 5, c_side_less⟩, ⟨1, 1, c_not_in⟩, ⟨4, 8, c_sure_tree⟩, ⟨4, 9, c_possible_tree⟩, ⟨4, 4, c_sure_region⟩, ⟨4, 4, c_possible_region⟩, ⟨2, 6, c__law_well⟩, ⟨2, 4, c__law_draw⟩, ⟨2, 2, c__law_pick⟩, ⟨1, 1, c__law_rounds⟩, ⟨2, 4, c__law_common⟩, ⟨1, 2, c__law_number⟩, ⟨1, 1, c__law_sign⟩, ⟨3, 5, c__law_sign_of_two⟩, ⟨2, 2, c__law_norm⟩, ⟨1, 3, c__law_reduced⟩, ⟨1, 4, c__law_root⟩, ⟨1, 3, c__law_vector⟩, ⟨1, 6, c__law_arrow⟩, ⟨3, 8, c__law_side⟩, ⟨3, 7, c__law_angle_at⟩, ⟨2, 6, c__law_whole_way⟩, ⟨2, 7, c__law_angle⟩, ⟨2, 11, c__law_valve⟩, ⟨3, 12, c__law_state⟩, ⟨1, 7, c__law_plans⟩, ⟨1, 11, c__law_events⟩, ⟨2, 12, c__law_moved⟩, ⟨2, 7, c__law_slack⟩, ⟨4, 12, c__law_states_within⟩, ⟨3, 21, c__law_slack_right⟩, ⟨1, 12, c__law_right⟩, ⟨1, 2, c_law⟩]
def fnames0 : List Str := ["is_whole", "is_between", "are_wholes", "is_ratio", "common", "sign_of", "root_sign", "product", "cross", "norm", "is_angle", "check_angle", "check_form_of", "square_at", "sign_at", "numbers_of", "is_port", "is_valve", "check_valve", "check_end", "check_word", "against", "sides_at", "word_of", "state_of", "region_of_state", "state_at", "state_region", "is_side", "are_trees"]
def fnames1 : List Str := ["sides_in", "is_region", "check_region", "lies_in", "holds", "times", "check_slack", "side_less", "not_in", "sure_tree", "possible_tree", "sure_region", "possible_region", "_law_well", "_law_draw", "_law_pick", "_law_rounds", "_law_common", "_law_number", "_law_sign", "_law_sign_of_two", "_law_norm", "_law_reduced", "_law_root", "_law_vector", "_law_arrow", "_law_side", "_law_angle_at", "_law_whole_way", "_law_angle"]
def fnames2 : List Str := ["_law_valve", "_law_state", "_law_plans", "_law_events", "_law_moved", "_law_slack", "_law_states_within", "_law_slack_right", "_law_right", "law"]
def fnames : List Str := fnames0 ++ fnames1 ++ fnames2
def kwl : List (Nat × List (Nat × List Str × List Nat)) := [(26, [(0, ["angle", "end", "valve"], [2, 1, 0])]), (27, [(0, ["state", "end", "valve"], [2, 1, 0])]), (42, [(0, ["slack", "state", "end", "valve"], [3, 2, 1, 0])])]
def gnames : List Str := ["FORMS", "ENDS", "STATES", "MOST_TREES", "MOST_SIDES", "MOST_DEEP", "NOWHERE"]
def gls : List PyData := [(.int 3), (.tuple [(.str "crank"), (.str "head")]), (.tuple [(.str "both"), (.str "closed"), (.str "exhaust"), (.str "steam")]), (.int 8), (.int 24), (.int 6), (.tuple [(.str "not"), (.tuple [(.str "all")])])]
abbrev T : Tb := ⟨70, fun f => fnames.getD f "", fun f => (kwl.lookup f).getD [], fun g => gnames.getD g "", [.gcd]⟩
def nms0 : List Str := ["SteamError", "InvalidRatio", "InvalidAngle", "InvalidRegion", "InvalidValve", "InvalidEnd", "InvalidWord", "Unlike", "is_whole", "is_between", "are_wholes", "is_ratio", "common", "sign_of", "root_sign", "FORMS", "product", "cross", "norm", "is_angle", "check_angle", "check_form_of", "square_at", "sign_at", "ENDS", "STATES", "numbers_of", "is_port", "is_valve", "check_valve"]
def nms1 : List Str := ["check_end", "check_word", "against", "sides_at", "word_of", "state_of", "region_of_state", "state_at", "state_region", "MOST_SIDES", "MOST_DEEP", "MOST_TREES", "is_side", "are_trees", "sides_in", "is_region", "check_region", "lies_in", "holds", "times", "NOWHERE", "check_slack", "side_less", "not_in", "sure_tree", "possible_tree", "sure_region", "possible_region", "_law_well", "_law_draw"]
def nms2 : List Str := ["_law_pick", "_law_rounds", "_law_common", "_law_number", "_law_sign", "_law_sign_of_two", "_law_norm", "_law_reduced", "_law_root", "_law_vector", "_law_arrow", "_law_side", "_law_angle_at", "_law_whole_way", "_law_angle", "_law_valve", "_law_state", "_law_plans", "_law_events", "_law_moved", "_law_slack", "_law_states_within", "_law_slack_right", "_law_right"]
def nms : List Str := nms0 ++ nms1 ++ nms2
def fnD0 : List He.DefD := [dd 11 "is_whole" "is_whole", dd 12 "is_between" "is_between", dd 13 "are_wholes" "are_wholes", dd 14 "is_ratio" "is_ratio", dd 15 "common" "common", dd 16 "sign_of" "sign_of", dd 17 "root_sign" "root_sign", dd 20 "product" "product", dd 21 "cross" "cross", dd 22 "norm" "norm", dd 23 "is_angle" "is_angle", dd 24 "check_angle" "check_angle", dd 25 "check_form_of" "check_form_of", dd 26 "square_at" "square_at", dd 27 "sign_at" "sign_at", dd 31 "numbers_of" "numbers_of", dd 32 "is_port" "is_port", dd 33 "is_valve" "is_valve", dd 34 "check_valve" "check_valve", dd 35 "check_end" "check_end", dd 36 "check_word" "check_word", dd 37 "against" "against", dd 38 "sides_at" "sides_at", dd 39 "word_of" "word_of", dd 40 "state_of" "state_of", dd 41 "region_of_state" "region_of_state", dd 42 "state_at" "state_at", dd 43 "state_region" "state_region", dd 48 "is_side" "is_side", dd 49 "are_trees" "are_trees"]
def fnD1 : List He.DefD := [dd 50 "sides_in" "sides_in", dd 51 "is_region" "is_region", dd 52 "check_region" "check_region", dd 53 "lies_in" "lies_in", dd 54 "holds" "holds", dd 56 "times" "times", dd 59 "check_slack" "check_slack", dd 60 "side_less" "side_less", dd 61 "not_in" "not_in", dd 62 "sure_tree" "sure_tree", dd 63 "possible_tree" "possible_tree", dd 64 "sure_region" "sure_region", dd 65 "possible_region" "possible_region", dd 67 "_law_well" "_law_well", dd 68 "_law_draw" "_law_draw", dd 69 "_law_pick" "_law_pick", dd 70 "_law_rounds" "_law_rounds", dd 71 "_law_common" "_law_common", dd 72 "_law_number" "_law_number", dd 73 "_law_sign" "_law_sign", dd 74 "_law_sign_of_two" "_law_sign_of_two", dd 75 "_law_norm" "_law_norm", dd 76 "_law_reduced" "_law_reduced", dd 77 "_law_root" "_law_root", dd 78 "_law_vector" "_law_vector", dd 79 "_law_arrow" "_law_arrow", dd 80 "_law_side" "_law_side", dd 81 "_law_angle_at" "_law_angle_at", dd 82 "_law_whole_way" "_law_whole_way", dd 83 "_law_angle" "_law_angle"]
def fnD2 : List He.DefD := [dd 84 "_law_valve" "_law_valve", dd 85 "_law_state" "_law_state", dd 86 "_law_plans" "_law_plans", dd 87 "_law_events" "_law_events", dd 88 "_law_moved" "_law_moved", dd 89 "_law_slack" "_law_slack", dd 90 "_law_states_within" "_law_states_within", dd 91 "_law_slack_right" "_law_slack_right", dd 92 "_law_right" "_law_right", dd 93 "law" "law"]
def fnD : List He.DefD := fnD0 ++ fnD1 ++ fnD2
def as : List Addr := [3, 195, 194, 202, 201, 207, 206, 214, 213, 221, 220, 228, 227, 235, 234, 242, 241, 249, 248, 256, 255, 263, 262, 270, 269, 277, 276, 284, 283, 291, 290, 300, 299, 307, 306, 314, 313, 321, 320, 328, 327, 335, 334, 342, 341, 349, 348, 356, 355, 363, 362, 368, 367, 375, 374, 382, 381, 389, 388, 396, 395, 401, 400, 408, 407, 415, 414, 420, 419, 427, 426, 434, 433, 443, 442, 450, 449, 457, 456, 464, 463, 471, 470, 478, 477, 485, 484, 492, 491, 499, 498, 506, 505, 513, 512, 520, 519, 527, 526, 534, 533, 541, 540, 548, 547, 553, 552, 560, 559, 567, 566, 574, 573, 581, 580, 588, 587, 595, 594, 602, 601, 609, 608, 616, 615, 623, 622, 630, 629, 637, 636, 644, 643, 649, 648, 656, 655, 661, 660, 668, 667, 292, 293, 436, 435]
abbrev R : PySem.W.OpenRow := PySem.W.OpenLaw.row PySem.Challenge.rw_steamgears_k20_whole_states_of_valves
abbrev hk : PySem.W.Hook := DL.hookD as T gls fnD
theorem run (w : World) : HandSHeadRun.RunEqI R (PySem.W.view R.prog [0, 93]) hk (DL.obD as T gls fnD) 4317 nms w := by
  unfold HandSHeadRun.RunEqI
  kernel_rfl
def N_is_whole : List Str := ["value"]
theorem k_is_whole : chkSs T ⟨N_is_whole, defScope (top 11), none⟩ c_is_whole (defBody (top 11)) = true := by decide +kernel
def N_is_between : List Str := ["value", "low", "high"]
theorem k_is_between : chkSs T ⟨N_is_between, defScope (top 12), none⟩ c_is_between (defBody (top 12)) = true := by decide +kernel
def N_are_wholes : List Str := ["value", "size", "number"]
theorem k_are_wholes : chkSs T ⟨N_are_wholes, defScope (top 13), none⟩ c_are_wholes (defBody (top 13)) = true := by decide +kernel
def N_is_ratio : List Str := ["value"]
theorem k_is_ratio : chkSs T ⟨N_is_ratio, defScope (top 14), none⟩ c_is_ratio (defBody (top 14)) = true := by decide +kernel
def N_common : List Str := ["numbers", "found", "number"]
theorem k_common : chkSs T ⟨N_common, defScope (top 15), none⟩ c_common (defBody (top 15)) = true := by decide +kernel
def N_sign_of : List Str := ["number"]
theorem k_sign_of : chkSs T ⟨N_sign_of, defScope (top 16), none⟩ c_sign_of (defBody (top 16)) = true := by decide +kernel
def N_root_sign : List Str := ["plain", "times", "square", "first", "second"]
theorem k_root_sign : chkSs T ⟨N_root_sign, defScope (top 17), none⟩ c_root_sign (defBody (top 17)) = true := by decide +kernel
def N_product : List Str := ["form", "vector", "other"]
theorem k_product : chkSs T ⟨N_product, defScope (top 20), none⟩ c_product (defBody (top 20)) = true := by decide +kernel
def N_cross : List Str := ["vector", "other"]
theorem k_cross : chkSs T ⟨N_cross, defScope (top 21), none⟩ c_cross (defBody (top 21)) = true := by decide +kernel
def N_norm : List Str := ["form", "vector"]
theorem k_norm : chkSs T ⟨N_norm, defScope (top 22), none⟩ c_norm (defBody (top 22)) = true := by decide +kernel
def N_is_angle : List Str := ["value"]
theorem k_is_angle : chkSs T ⟨N_is_angle, defScope (top 23), none⟩ c_is_angle (defBody (top 23)) = true := by decide +kernel
def N_check_angle : List Str := ["value"]
theorem k_check_angle : chkSs T ⟨N_check_angle, defScope (top 24), none⟩ c_check_angle (defBody (top 24)) = true := by decide +kernel
def N_check_form_of : List Str := ["angle", "form"]
theorem k_check_form_of : chkSs T ⟨N_check_form_of, defScope (top 25), none⟩ c_check_form_of (defBody (top 25)) = true := by decide +kernel
def N_square_at : List Str := ["angle"]
theorem k_square_at : chkSs T ⟨N_square_at, defScope (top 26), none⟩ c_square_at (defBody (top 26)) = true := by decide +kernel
def N_sign_at : List Str := ["angle", "vector", "level", "plain", "form", "own", "height"]
theorem k_sign_at : chkSs T ⟨N_sign_at, defScope (top 27), none⟩ c_sign_at (defBody (top 27)) = true := by decide +kernel
def N_numbers_of : List Str := ["valve"]
theorem k_numbers_of : chkSs T ⟨N_numbers_of, defScope (top 31), none⟩ c_numbers_of (defBody (top 31)) = true := by decide +kernel
def N_is_port : List Str := ["value"]
theorem k_is_port : chkSs T ⟨N_is_port, defScope (top 32), none⟩ c_is_port (defBody (top 32)) = true := by decide +kernel
def N_is_valve : List Str := ["value"]
theorem k_is_valve : chkSs T ⟨N_is_valve, defScope (top 33), none⟩ c_is_valve (defBody (top 33)) = true := by decide +kernel
def N_check_valve : List Str := ["value"]
theorem k_check_valve : chkSs T ⟨N_check_valve, defScope (top 34), none⟩ c_check_valve (defBody (top 34)) = true := by decide +kernel
def N_check_end : List Str := ["value"]
theorem k_check_end : chkSs T ⟨N_check_end, defScope (top 35), none⟩ c_check_end (defBody (top 35)) = true := by decide +kernel
def N_check_word : List Str := ["value", "words"]
theorem k_check_word : chkSs T ⟨N_check_word, defScope (top 36), none⟩ c_check_word (defBody (top 36)) = true := by decide +kernel
def N_against : List Str := ["vector"]
theorem k_against : chkSs T ⟨N_against, defScope (top 37), none⟩ c_against (defBody (top 37)) = true := by decide +kernel
def N_sides_at : List Str := ["valve", "end", "vector", "laps"]
theorem k_sides_at : chkSs T ⟨N_sides_at, defScope (top 38), none⟩ c_sides_at (defBody (top 38)) = true := by decide +kernel
def N_word_of : List Str := ["steams", "exhausts"]
theorem k_word_of : chkSs T ⟨N_word_of, defScope (top 39), none⟩ c_word_of (defBody (top 39)) = true := by decide +kernel
def N_state_of : List Str := ["valve", "end", "angle", "steam", "exhaust"]
theorem k_state_of : chkSs T ⟨N_state_of, defScope (top 40), none⟩ c_state_of (defBody (top 40)) = true := by decide +kernel
def N_region_of_state : List Str := ["valve", "end", "word", "first", "second", "steam", "exhaust", "vector", "level"]
theorem k_region_of_state : chkSs T ⟨N_region_of_state, defScope (top 41), none⟩ c_region_of_state (defBody (top 41)) = true := by decide +kernel
def N_state_at : List Str := ["valve", "end", "angle"]
theorem k_state_at : chkSs T ⟨N_state_at, defScope (top 42), none⟩ c_state_at (defBody (top 42)) = true := by decide +kernel
def N_state_region : List Str := ["valve", "end", "state"]
theorem k_state_region : chkSs T ⟨N_state_region, defScope (top 43), none⟩ c_state_region (defBody (top 43)) = true := by decide +kernel
def N_is_side : List Str := ["value"]
theorem k_is_side : chkSs T ⟨N_is_side, defScope (top 48), none⟩ c_is_side (defBody (top 48)) = true := by decide +kernel
def N_are_trees : List Str := ["value"]
theorem k_are_trees : chkSs T ⟨N_are_trees, defScope (top 49), none⟩ c_are_trees (defBody (top 49)) = true := by decide +kernel
def N_sides_in : List Str := ["value", "deep", "tree"]
theorem k_sides_in : chkSs T ⟨N_sides_in, defScope (top 50), none⟩ c_sides_in (defBody (top 50)) = true := by decide +kernel
def N_is_region : List Str := ["value"]
theorem k_is_region : chkSs T ⟨N_is_region, defScope (top 51), none⟩ c_is_region (defBody (top 51)) = true := by decide +kernel
def N_check_region : List Str := ["value"]
theorem k_check_region : chkSs T ⟨N_check_region, defScope (top 52), none⟩ c_check_region (defBody (top 52)) = true := by decide +kernel
def N_lies_in : List Str := ["tree", "angle", "inside", "part"]
theorem k_lies_in : chkSs T ⟨N_lies_in, defScope (top 53), none⟩ c_lies_in (defBody (top 53)) = true := by decide +kernel
def N_holds : List Str := ["region", "angle"]
theorem k_holds : chkSs T ⟨N_holds, defScope (top 54), none⟩ c_holds (defBody (top 54)) = true := by decide +kernel
def N_times : List Str := ["vector", "number"]
theorem k_times : chkSs T ⟨N_times, defScope (top 56), none⟩ c_times (defBody (top 56)) = true := by decide +kernel
def N_check_slack : List Str := ["value"]
theorem k_check_slack : chkSs T ⟨N_check_slack, defScope (top 59), none⟩ c_check_slack (defBody (top 59)) = true := by decide +kernel
def N_side_less : List Str := ["side", "slack", "sign", "vector", "level"]
theorem k_side_less : chkSs T ⟨N_side_less, defScope (top 60), none⟩ c_side_less (defBody (top 60)) = true := by decide +kernel
def N_not_in : List Str := ["tree"]
theorem k_not_in : chkSs T ⟨N_not_in, defScope (top 61), none⟩ c_not_in (defBody (top 61)) = true := by decide +kernel
def N_sure_tree : List Str := ["valve", "end", "state", "slack", "first", "second", "steam", "exhaust"]
theorem k_sure_tree : chkSs T ⟨N_sure_tree, defScope (top 62), none⟩ c_sure_tree (defBody (top 62)) = true := by decide +kernel
def N_possible_tree : List Str := ["valve", "end", "state", "slack", "blows", "first", "second", "steam", "exhaust"]
theorem k_possible_tree : chkSs T ⟨N_possible_tree, defScope (top 63), none⟩ c_possible_tree (defBody (top 63)) = true := by decide +kernel
def N_sure_region : List Str := ["valve", "end", "state", "slack"]
theorem k_sure_region : chkSs T ⟨N_sure_region, defScope (top 64), none⟩ c_sure_region (defBody (top 64)) = true := by decide +kernel
def N_possible_region : List Str := ["valve", "end", "state", "slack"]
theorem k_possible_region : chkSs T ⟨N_possible_region, defScope (top 65), none⟩ c_possible_region (defBody (top 65)) = true := by decide +kernel
def N__law_well : List Str := ["script", "spot", "mix", "cell", "own", "rest"]
theorem k__law_well : chkSs T ⟨N__law_well, defScope (top 67), none⟩ c__law_well (defBody (top 67)) = true := by decide +kernel
def N__law_draw : List Str := ["well", "many", "pace", "digit"]
theorem k__law_draw : chkSs T ⟨N__law_draw, defScope (top 68), none⟩ c__law_draw (defBody (top 68)) = true := by decide +kernel
def N__law_pick : List Str := ["well", "some"]
theorem k__law_pick : chkSs T ⟨N__law_pick, defScope (top 69), none⟩ c__law_pick (defBody (top 69)) = true := by decide +kernel
def N__law_rounds : List Str := ["script"]
theorem k__law_rounds : chkSs T ⟨N__law_rounds, defScope (top 70), none⟩ c__law_rounds (defBody (top 70)) = true := by decide +kernel
def N__law_common : List Str := ["one", "two", "left", "right"]
theorem k__law_common : chkSs T ⟨N__law_common, defScope (top 71), none⟩ c__law_common (defBody (top 71)) = true := by decide +kernel
def N__law_number : List Str := ["well", "size"]
theorem k__law_number : chkSs T ⟨N__law_number, defScope (top 72), none⟩ c__law_number (defBody (top 72)) = true := by decide +kernel
def N__law_sign : List Str := ["number"]
theorem k__law_sign : chkSs T ⟨N__law_sign, defScope (top 73), none⟩ c__law_sign (defBody (top 73)) = true := by decide +kernel
def N__law_sign_of_two : List Str := ["p", "q", "d", "one", "two"]
theorem k__law_sign_of_two : chkSs T ⟨N__law_sign_of_two, defScope (top 74), none⟩ c__law_sign_of_two (defBody (top 74)) = true := by decide +kernel
def N__law_norm : List Str := ["form", "vector"]
theorem k__law_norm : chkSs T ⟨N__law_norm, defScope (top 75), none⟩ c__law_norm (defBody (top 75)) = true := by decide +kernel
def N__law_reduced : List Str := ["numbers", "part", "number"]
theorem k__law_reduced : chkSs T ⟨N__law_reduced, defScope (top 76), none⟩ c__law_reduced (defBody (top 76)) = true := by decide +kernel
def N__law_root : List Str := ["number", "low", "high", "middle"]
theorem k__law_root : chkSs T ⟨N__law_root, defScope (top 77), none⟩ c__law_root (defBody (top 77)) = true := by decide +kernel
def N__law_vector : List Str := ["well", "one", "two"]
theorem k__law_vector : chkSs T ⟨N__law_vector, defScope (top 78), none⟩ c__law_vector (defBody (top 78)) = true := by decide +kernel
def N__law_arrow : List Str := ["angle", "size", "form", "a", "b", "level"]
theorem k__law_arrow : chkSs T ⟨N__law_arrow, defScope (top 79), none⟩ c__law_arrow (defBody (top 79)) = true := by decide +kernel
def N__law_side : List Str := ["angle", "vector", "level", "p", "one", "two", "root", "size"]
theorem k__law_side : chkSs T ⟨N__law_side, defScope (top 80), none⟩ c__law_side (defBody (top 80)) = true := by decide +kernel
def N__law_angle_at : List Str := ["form", "way", "vector", "whole", "sign", "level", "rise"]
theorem k__law_angle_at : chkSs T ⟨N__law_angle_at, defScope (top 81), none⟩ c__law_angle_at (defBody (top 81)) = true := by decide +kernel
def N__law_whole_way : List Str := ["well", "form", "p", "q", "one", "two"]
theorem k__law_whole_way : chkSs T ⟨N__law_whole_way, defScope (top 82), none⟩ c__law_whole_way (defBody (top 82)) = true := by decide +kernel
def N__law_angle : List Str := ["well", "form", "most", "level", "sort", "vector", "found"]
theorem k__law_angle : chkSs T ⟨N__law_angle, defScope (top 83), none⟩ c__law_angle (defBody (top 83)) = true := by decide +kernel
def N__law_valve : List Str := ["well", "form", "k", "found", "sort", "vector", "most", "laps", "inner", "way", "many"]
theorem k__law_valve : chkSs T ⟨N__law_valve, defScope (top 84), none⟩ c__law_valve (defBody (top 84)) = true := by decide +kernel
def N__law_state : List Str := ["valve", "end", "angle", "form", "vector", "port", "sh", "xh", "sc", "xc", "steam", "exhaust"]
theorem k__law_state : chkSs T ⟨N__law_state, defScope (top 85), none⟩ c__law_state (defBody (top 85)) = true := by decide +kernel
def N__law_plans : List Str := ["valve", "head", "crank", "sh", "xh", "sc", "xc"]
theorem k__law_plans : chkSs T ⟨N__law_plans, defScope (top 86), none⟩ c__law_plans (defBody (top 86)) = true := by decide +kernel
def N__law_events : List Str := ["valve", "form", "vector", "found", "end", "event", "level", "rises", "a", "b", "rest"]
theorem k__law_events : chkSs T ⟨N__law_events, defScope (top 87), none⟩ c__law_events (defBody (top 87)) = true := by decide +kernel
def N__law_moved : List Str := ["valve", "shift", "form", "port", "n", "m", "a", "b", "sh", "xh", "sc", "xc"]
theorem k__law_moved : chkSs T ⟨N__law_moved, defScope (top 88), none⟩ c__law_moved (defBody (top 88)) = true := by decide +kernel
def N__law_slack : List Str := ["well", "valve", "some", "sh", "xh", "sc", "xc"]
theorem k__law_slack : chkSs T ⟨N__law_slack, defScope (top 89), none⟩ c__law_slack (defBody (top 89)) = true := by decide +kernel
def N__law_states_within : List Str := ["valve", "end", "angle", "slack", "middle", "least", "most", "sh", "xh", "sc", "xc", "way"]
theorem k__law_states_within : chkSs T ⟨N__law_states_within, defScope (top 90), none⟩ c__law_states_within (defBody (top 90)) = true := by decide +kernel
def N__law_slack_right : List Str := ["well", "valve", "some", "level", "end", "slack", "form", "n", "m", "near", "state", "a", "b", "sure", "possible", "angle", "found", "due", "c", "d", "rest"]
theorem k__law_slack_right : chkSs T ⟨N__law_slack_right, defScope (top 91), none⟩ c__law_slack_right (defBody (top 91)) = true := by decide +kernel
def N__law_right : List Str := ["well", "form", "valve", "some", "end", "regions", "state", "angle", "due", "told", "event", "region"]
theorem k__law_right : chkSs T ⟨N__law_right, defScope (top 92), none⟩ c__law_right (defBody (top 92)) = true := by decide +kernel
def N_law : List Str := ["script", "spot"]
theorem k_law : chkSs T ⟨N_law, defScope (top 93), none⟩ c_law (defBody (top 93)) = true := by decide +kernel
section
variable {P : Program} {w : World} {K : PySem.W.Frag} {h : Heap} {mg : Str → Option Value}
theorem f_is_whole (X : K.In h) (G : h.Ns mainGlobals mg) (c : okX T gls K = true) (s : He.SaysD [] fnD K) : Fact P w K mg T fns 0 := by
  obtain ⟨fd, F⟩ := s.def_ 0 (d := dd 11 "is_whole" "is_whole") rfl
  exact ⟨_, fd, _, _, _, _, _, ["value"], N_is_whole, c_is_whole, okX_fn X G c (f := 0) (by decide), F, scope_by (by decide +kernel), rfl, by decide +kernel, k_is_whole, FunD.bindsN F fun _ _ _ _ _ _ us hl => match us, hl with | [_], _ => rfl, fun n ks pm hm => by
    have hm : (n, ks, pm) ∈ ([] : List (Nat × List Str × List Nat)) := hm
    exact absurd hm (by simp)⟩
theorem f_is_between (X : K.In h) (G : h.Ns mainGlobals mg) (c : okX T gls K = true) (s : He.SaysD [] fnD K) : Fact P w K mg T fns 1 := by
  obtain ⟨fd, F⟩ := s.def_ 1 (d := dd 12 "is_between" "is_between") rfl
  exact ⟨_, fd, _, _, _, _, _, ["value", "low", "high"], N_is_between, c_is_between, okX_fn X G c (f := 1) (by decide), F, scope_by (by decide +kernel), rfl, by decide +kernel, k_is_between, FunD.bindsN F fun _ _ _ _ _ _ us hl => match us, hl with | [_, _, _], _ => rfl, fun n ks pm hm => by
    have hm : (n, ks, pm) ∈ ([] : List (Nat × List Str × List Nat)) := hm
    exact absurd hm (by simp)⟩
theorem f_are_wholes (X : K.In h) (G : h.Ns mainGlobals mg) (c : okX T gls K = true) (s : He.SaysD [] fnD K) : Fact P w K mg T fns 2 := by
  obtain ⟨fd, F⟩ := s.def_ 2 (d := dd 13 "are_wholes" "are_wholes") rfl
  exact ⟨_, fd, _, _, _, _, _, ["value", "size"], N_are_wholes, c_are_wholes, okX_fn X G c (f := 2) (by decide), F, scope_by (by decide +kernel), rfl, by decide +kernel, k_are_wholes, FunD.bindsN F fun _ _ _ _ _ _ us hl => match us, hl with | [_, _], _ => rfl, fun n ks pm hm => by
    have hm : (n, ks, pm) ∈ ([] : List (Nat × List Str × List Nat)) := hm
    exact absurd hm (by simp)⟩
theorem f_is_ratio (X : K.In h) (G : h.Ns mainGlobals mg) (c : okX T gls K = true) (s : He.SaysD [] fnD K) : Fact P w K mg T fns 3 := by
  obtain ⟨fd, F⟩ := s.def_ 3 (d := dd 14 "is_ratio" "is_ratio") rfl
  exact ⟨_, fd, _, _, _, _, _, ["value"], N_is_ratio, c_is_ratio, okX_fn X G c (f := 3) (by decide), F, scope_by (by decide +kernel), rfl, by decide +kernel, k_is_ratio, FunD.bindsN F fun _ _ _ _ _ _ us hl => match us, hl with | [_], _ => rfl, fun n ks pm hm => by
    have hm : (n, ks, pm) ∈ ([] : List (Nat × List Str × List Nat)) := hm
    exact absurd hm (by simp)⟩
theorem f_common (X : K.In h) (G : h.Ns mainGlobals mg) (c : okX T gls K = true) (s : He.SaysD [] fnD K) : Fact P w K mg T fns 4 := by
  obtain ⟨fd, F⟩ := s.def_ 4 (d := dd 15 "common" "common") rfl
  exact ⟨_, fd, _, _, _, _, _, ["numbers"], N_common, c_common, okX_fn X G c (f := 4) (by decide), F, scope_by (by decide +kernel), rfl, by decide +kernel, k_common, FunD.bindsN F fun _ _ _ _ _ _ us hl => match us, hl with | [_], _ => rfl, fun n ks pm hm => by
    have hm : (n, ks, pm) ∈ ([] : List (Nat × List Str × List Nat)) := hm
    exact absurd hm (by simp)⟩
theorem f_sign_of (X : K.In h) (G : h.Ns mainGlobals mg) (c : okX T gls K = true) (s : He.SaysD [] fnD K) : Fact P w K mg T fns 5 := by
  obtain ⟨fd, F⟩ := s.def_ 5 (d := dd 16 "sign_of" "sign_of") rfl
  exact ⟨_, fd, _, _, _, _, _, ["number"], N_sign_of, c_sign_of, okX_fn X G c (f := 5) (by decide), F, scope_by (by decide +kernel), rfl, by decide +kernel, k_sign_of, FunD.bindsN F fun _ _ _ _ _ _ us hl => match us, hl with | [_], _ => rfl, fun n ks pm hm => by
    have hm : (n, ks, pm) ∈ ([] : List (Nat × List Str × List Nat)) := hm
    exact absurd hm (by simp)⟩
theorem f_root_sign (X : K.In h) (G : h.Ns mainGlobals mg) (c : okX T gls K = true) (s : He.SaysD [] fnD K) : Fact P w K mg T fns 6 := by
  obtain ⟨fd, F⟩ := s.def_ 6 (d := dd 17 "root_sign" "root_sign") rfl
  exact ⟨_, fd, _, _, _, _, _, ["plain", "times", "square"], N_root_sign, c_root_sign, okX_fn X G c (f := 6) (by decide), F, scope_by (by decide +kernel), rfl, by decide +kernel, k_root_sign, FunD.bindsN F fun _ _ _ _ _ _ us hl => match us, hl with | [_, _, _], _ => rfl, fun n ks pm hm => by
    have hm : (n, ks, pm) ∈ ([] : List (Nat × List Str × List Nat)) := hm
    exact absurd hm (by simp)⟩
theorem f_product (X : K.In h) (G : h.Ns mainGlobals mg) (c : okX T gls K = true) (s : He.SaysD [] fnD K) : Fact P w K mg T fns 7 := by
  obtain ⟨fd, F⟩ := s.def_ 7 (d := dd 20 "product" "product") rfl
  exact ⟨_, fd, _, _, _, _, _, ["form", "vector", "other"], N_product, c_product, okX_fn X G c (f := 7) (by decide), F, scope_by (by decide +kernel), rfl, by decide +kernel, k_product, FunD.bindsN F fun _ _ _ _ _ _ us hl => match us, hl with | [_, _, _], _ => rfl, fun n ks pm hm => by
    have hm : (n, ks, pm) ∈ ([] : List (Nat × List Str × List Nat)) := hm
    exact absurd hm (by simp)⟩
theorem f_cross (X : K.In h) (G : h.Ns mainGlobals mg) (c : okX T gls K = true) (s : He.SaysD [] fnD K) : Fact P w K mg T fns 8 := by
  obtain ⟨fd, F⟩ := s.def_ 8 (d := dd 21 "cross" "cross") rfl
  exact ⟨_, fd, _, _, _, _, _, ["vector", "other"], N_cross, c_cross, okX_fn X G c (f := 8) (by decide), F, scope_by (by decide +kernel), rfl, by decide +kernel, k_cross, FunD.bindsN F fun _ _ _ _ _ _ us hl => match us, hl with | [_, _], _ => rfl, fun n ks pm hm => by
    have hm : (n, ks, pm) ∈ ([] : List (Nat × List Str × List Nat)) := hm
    exact absurd hm (by simp)⟩
theorem f_norm (X : K.In h) (G : h.Ns mainGlobals mg) (c : okX T gls K = true) (s : He.SaysD [] fnD K) : Fact P w K mg T fns 9 := by
  obtain ⟨fd, F⟩ := s.def_ 9 (d := dd 22 "norm" "norm") rfl
  exact ⟨_, fd, _, _, _, _, _, ["form", "vector"], N_norm, c_norm, okX_fn X G c (f := 9) (by decide), F, scope_by (by decide +kernel), rfl, by decide +kernel, k_norm, FunD.bindsN F fun _ _ _ _ _ _ us hl => match us, hl with | [_, _], _ => rfl, fun n ks pm hm => by
    have hm : (n, ks, pm) ∈ ([] : List (Nat × List Str × List Nat)) := hm
    exact absurd hm (by simp)⟩
theorem f_is_angle (X : K.In h) (G : h.Ns mainGlobals mg) (c : okX T gls K = true) (s : He.SaysD [] fnD K) : Fact P w K mg T fns 10 := by
  obtain ⟨fd, F⟩ := s.def_ 10 (d := dd 23 "is_angle" "is_angle") rfl
  exact ⟨_, fd, _, _, _, _, _, ["value"], N_is_angle, c_is_angle, okX_fn X G c (f := 10) (by decide), F, scope_by (by decide +kernel), rfl, by decide +kernel, k_is_angle, FunD.bindsN F fun _ _ _ _ _ _ us hl => match us, hl with | [_], _ => rfl, fun n ks pm hm => by
    have hm : (n, ks, pm) ∈ ([] : List (Nat × List Str × List Nat)) := hm
    exact absurd hm (by simp)⟩
theorem f_check_angle (X : K.In h) (G : h.Ns mainGlobals mg) (c : okX T gls K = true) (s : He.SaysD [] fnD K) : Fact P w K mg T fns 11 := by
  obtain ⟨fd, F⟩ := s.def_ 11 (d := dd 24 "check_angle" "check_angle") rfl
  exact ⟨_, fd, _, _, _, _, _, ["value"], N_check_angle, c_check_angle, okX_fn X G c (f := 11) (by decide), F, scope_by (by decide +kernel), rfl, by decide +kernel, k_check_angle, FunD.bindsN F fun _ _ _ _ _ _ us hl => match us, hl with | [_], _ => rfl, fun n ks pm hm => by
    have hm : (n, ks, pm) ∈ ([] : List (Nat × List Str × List Nat)) := hm
    exact absurd hm (by simp)⟩
theorem f_check_form_of (X : K.In h) (G : h.Ns mainGlobals mg) (c : okX T gls K = true) (s : He.SaysD [] fnD K) : Fact P w K mg T fns 12 := by
  obtain ⟨fd, F⟩ := s.def_ 12 (d := dd 25 "check_form_of" "check_form_of") rfl
  exact ⟨_, fd, _, _, _, _, _, ["angle", "form"], N_check_form_of, c_check_form_of, okX_fn X G c (f := 12) (by decide), F, scope_by (by decide +kernel), rfl, by decide +kernel, k_check_form_of, FunD.bindsN F fun _ _ _ _ _ _ us hl => match us, hl with | [_, _], _ => rfl, fun n ks pm hm => by
    have hm : (n, ks, pm) ∈ ([] : List (Nat × List Str × List Nat)) := hm
    exact absurd hm (by simp)⟩
theorem f_square_at (X : K.In h) (G : h.Ns mainGlobals mg) (c : okX T gls K = true) (s : He.SaysD [] fnD K) : Fact P w K mg T fns 13 := by
  obtain ⟨fd, F⟩ := s.def_ 13 (d := dd 26 "square_at" "square_at") rfl
  exact ⟨_, fd, _, _, _, _, _, ["angle"], N_square_at, c_square_at, okX_fn X G c (f := 13) (by decide), F, scope_by (by decide +kernel), rfl, by decide +kernel, k_square_at, FunD.bindsN F fun _ _ _ _ _ _ us hl => match us, hl with | [_], _ => rfl, fun n ks pm hm => by
    have hm : (n, ks, pm) ∈ ([] : List (Nat × List Str × List Nat)) := hm
    exact absurd hm (by simp)⟩
theorem f_sign_at (X : K.In h) (G : h.Ns mainGlobals mg) (c : okX T gls K = true) (s : He.SaysD [] fnD K) : Fact P w K mg T fns 14 := by
  obtain ⟨fd, F⟩ := s.def_ 14 (d := dd 27 "sign_at" "sign_at") rfl
  exact ⟨_, fd, _, _, _, _, _, ["angle", "vector", "level"], N_sign_at, c_sign_at, okX_fn X G c (f := 14) (by decide), F, scope_by (by decide +kernel), rfl, by decide +kernel, k_sign_at, FunD.bindsN F fun _ _ _ _ _ _ us hl => match us, hl with | [_, _, _], _ => rfl, fun n ks pm hm => by
    have hm : (n, ks, pm) ∈ ([] : List (Nat × List Str × List Nat)) := hm
    exact absurd hm (by simp)⟩
theorem f_numbers_of (X : K.In h) (G : h.Ns mainGlobals mg) (c : okX T gls K = true) (s : He.SaysD [] fnD K) : Fact P w K mg T fns 15 := by
  obtain ⟨fd, F⟩ := s.def_ 15 (d := dd 31 "numbers_of" "numbers_of") rfl
  exact ⟨_, fd, _, _, _, _, _, ["valve"], N_numbers_of, c_numbers_of, okX_fn X G c (f := 15) (by decide), F, scope_by (by decide +kernel), rfl, by decide +kernel, k_numbers_of, FunD.bindsN F fun _ _ _ _ _ _ us hl => match us, hl with | [_], _ => rfl, fun n ks pm hm => by
    have hm : (n, ks, pm) ∈ ([] : List (Nat × List Str × List Nat)) := hm
    exact absurd hm (by simp)⟩
theorem f_is_port (X : K.In h) (G : h.Ns mainGlobals mg) (c : okX T gls K = true) (s : He.SaysD [] fnD K) : Fact P w K mg T fns 16 := by
  obtain ⟨fd, F⟩ := s.def_ 16 (d := dd 32 "is_port" "is_port") rfl
  exact ⟨_, fd, _, _, _, _, _, ["value"], N_is_port, c_is_port, okX_fn X G c (f := 16) (by decide), F, scope_by (by decide +kernel), rfl, by decide +kernel, k_is_port, FunD.bindsN F fun _ _ _ _ _ _ us hl => match us, hl with | [_], _ => rfl, fun n ks pm hm => by
    have hm : (n, ks, pm) ∈ ([] : List (Nat × List Str × List Nat)) := hm
    exact absurd hm (by simp)⟩
theorem f_is_valve (X : K.In h) (G : h.Ns mainGlobals mg) (c : okX T gls K = true) (s : He.SaysD [] fnD K) : Fact P w K mg T fns 17 := by
  obtain ⟨fd, F⟩ := s.def_ 17 (d := dd 33 "is_valve" "is_valve") rfl
  exact ⟨_, fd, _, _, _, _, _, ["value"], N_is_valve, c_is_valve, okX_fn X G c (f := 17) (by decide), F, scope_by (by decide +kernel), rfl, by decide +kernel, k_is_valve, FunD.bindsN F fun _ _ _ _ _ _ us hl => match us, hl with | [_], _ => rfl, fun n ks pm hm => by
    have hm : (n, ks, pm) ∈ ([] : List (Nat × List Str × List Nat)) := hm
    exact absurd hm (by simp)⟩
theorem f_check_valve (X : K.In h) (G : h.Ns mainGlobals mg) (c : okX T gls K = true) (s : He.SaysD [] fnD K) : Fact P w K mg T fns 18 := by
  obtain ⟨fd, F⟩ := s.def_ 18 (d := dd 34 "check_valve" "check_valve") rfl
  exact ⟨_, fd, _, _, _, _, _, ["value"], N_check_valve, c_check_valve, okX_fn X G c (f := 18) (by decide), F, scope_by (by decide +kernel), rfl, by decide +kernel, k_check_valve, FunD.bindsN F fun _ _ _ _ _ _ us hl => match us, hl with | [_], _ => rfl, fun n ks pm hm => by
    have hm : (n, ks, pm) ∈ ([] : List (Nat × List Str × List Nat)) := hm
    exact absurd hm (by simp)⟩
theorem f_check_end (X : K.In h) (G : h.Ns mainGlobals mg) (c : okX T gls K = true) (s : He.SaysD [] fnD K) : Fact P w K mg T fns 19 := by
  obtain ⟨fd, F⟩ := s.def_ 19 (d := dd 35 "check_end" "check_end") rfl
  exact ⟨_, fd, _, _, _, _, _, ["value"], N_check_end, c_check_end, okX_fn X G c (f := 19) (by decide), F, scope_by (by decide +kernel), rfl, by decide +kernel, k_check_end, FunD.bindsN F fun _ _ _ _ _ _ us hl => match us, hl with | [_], _ => rfl, fun n ks pm hm => by
    have hm : (n, ks, pm) ∈ ([] : List (Nat × List Str × List Nat)) := hm
    exact absurd hm (by simp)⟩
theorem f_check_word (X : K.In h) (G : h.Ns mainGlobals mg) (c : okX T gls K = true) (s : He.SaysD [] fnD K) : Fact P w K mg T fns 20 := by
  obtain ⟨fd, F⟩ := s.def_ 20 (d := dd 36 "check_word" "check_word") rfl
  exact ⟨_, fd, _, _, _, _, _, ["value", "words"], N_check_word, c_check_word, okX_fn X G c (f := 20) (by decide), F, scope_by (by decide +kernel), rfl, by decide +kernel, k_check_word, FunD.bindsN F fun _ _ _ _ _ _ us hl => match us, hl with | [_, _], _ => rfl, fun n ks pm hm => by
    have hm : (n, ks, pm) ∈ ([] : List (Nat × List Str × List Nat)) := hm
    exact absurd hm (by simp)⟩
theorem f_against (X : K.In h) (G : h.Ns mainGlobals mg) (c : okX T gls K = true) (s : He.SaysD [] fnD K) : Fact P w K mg T fns 21 := by
  obtain ⟨fd, F⟩ := s.def_ 21 (d := dd 37 "against" "against") rfl
  exact ⟨_, fd, _, _, _, _, _, ["vector"], N_against, c_against, okX_fn X G c (f := 21) (by decide), F, scope_by (by decide +kernel), rfl, by decide +kernel, k_against, FunD.bindsN F fun _ _ _ _ _ _ us hl => match us, hl with | [_], _ => rfl, fun n ks pm hm => by
    have hm : (n, ks, pm) ∈ ([] : List (Nat × List Str × List Nat)) := hm
    exact absurd hm (by simp)⟩
theorem f_sides_at (X : K.In h) (G : h.Ns mainGlobals mg) (c : okX T gls K = true) (s : He.SaysD [] fnD K) : Fact P w K mg T fns 22 := by
  obtain ⟨fd, F⟩ := s.def_ 22 (d := dd 38 "sides_at" "sides_at") rfl
  exact ⟨_, fd, _, _, _, _, _, ["valve", "end"], N_sides_at, c_sides_at, okX_fn X G c (f := 22) (by decide), F, scope_by (by decide +kernel), rfl, by decide +kernel, k_sides_at, FunD.bindsN F fun _ _ _ _ _ _ us hl => match us, hl with | [_, _], _ => rfl, fun n ks pm hm => by
    have hm : (n, ks, pm) ∈ ([] : List (Nat × List Str × List Nat)) := hm
    exact absurd hm (by simp)⟩
theorem f_word_of (X : K.In h) (G : h.Ns mainGlobals mg) (c : okX T gls K = true) (s : He.SaysD [] fnD K) : Fact P w K mg T fns 23 := by
  obtain ⟨fd, F⟩ := s.def_ 23 (d := dd 39 "word_of" "word_of") rfl
  exact ⟨_, fd, _, _, _, _, _, ["steams", "exhausts"], N_word_of, c_word_of, okX_fn X G c (f := 23) (by decide), F, scope_by (by decide +kernel), rfl, by decide +kernel, k_word_of, FunD.bindsN F fun _ _ _ _ _ _ us hl => match us, hl with | [_, _], _ => rfl, fun n ks pm hm => by
    have hm : (n, ks, pm) ∈ ([] : List (Nat × List Str × List Nat)) := hm
    exact absurd hm (by simp)⟩
theorem f_state_of (X : K.In h) (G : h.Ns mainGlobals mg) (c : okX T gls K = true) (s : He.SaysD [] fnD K) : Fact P w K mg T fns 24 := by
  obtain ⟨fd, F⟩ := s.def_ 24 (d := dd 40 "state_of" "state_of") rfl
  exact ⟨_, fd, _, _, _, _, _, ["valve", "end", "angle"], N_state_of, c_state_of, okX_fn X G c (f := 24) (by decide), F, scope_by (by decide +kernel), rfl, by decide +kernel, k_state_of, FunD.bindsN F fun _ _ _ _ _ _ us hl => match us, hl with | [_, _, _], _ => rfl, fun n ks pm hm => by
    have hm : (n, ks, pm) ∈ ([] : List (Nat × List Str × List Nat)) := hm
    exact absurd hm (by simp)⟩
theorem f_region_of_state (X : K.In h) (G : h.Ns mainGlobals mg) (c : okX T gls K = true) (s : He.SaysD [] fnD K) : Fact P w K mg T fns 25 := by
  obtain ⟨fd, F⟩ := s.def_ 25 (d := dd 41 "region_of_state" "region_of_state") rfl
  exact ⟨_, fd, _, _, _, _, _, ["valve", "end", "word"], N_region_of_state, c_region_of_state, okX_fn X G c (f := 25) (by decide), F, scope_by (by decide +kernel), rfl, by decide +kernel, k_region_of_state, FunD.bindsN F fun _ _ _ _ _ _ us hl => match us, hl with | [_, _, _], _ => rfl, fun n ks pm hm => by
    have hm : (n, ks, pm) ∈ ([] : List (Nat × List Str × List Nat)) := hm
    exact absurd hm (by simp)⟩
theorem f_state_at (X : K.In h) (G : h.Ns mainGlobals mg) (c : okX T gls K = true) (s : He.SaysD [] fnD K) : Fact P w K mg T fns 26 := by
  obtain ⟨fd, F⟩ := s.def_ 26 (d := dd 42 "state_at" "state_at") rfl
  exact ⟨_, fd, _, _, _, _, _, ["valve", "end", "angle"], N_state_at, c_state_at, okX_fn X G c (f := 26) (by decide), F, scope_by (by decide +kernel), rfl, by decide +kernel, k_state_at, FunD.bindsN F fun _ _ _ _ _ _ us hl => match us, hl with | [_, _, _], _ => rfl, fun n ks pm hm => by
    have hm : (n, ks, pm) ∈ [(0, [("angle" : Str), ("end" : Str), ("valve" : Str)], [2, 1, 0])] := hm
    simp only [List.mem_cons, List.not_mem_nil, or_false, Prod.mk.injEq] at hm
    rcases hm with ⟨rfl, rfl, rfl⟩
    · exact kwTo_of F fun kV doc pmv an cdv ct us ws vs h1 h2 h3 => match us, ws, h1, h2, h3 with
        | [], [_, _, _], _, _, h3 => by cases h3; rfl⟩
theorem f_state_region (X : K.In h) (G : h.Ns mainGlobals mg) (c : okX T gls K = true) (s : He.SaysD [] fnD K) : Fact P w K mg T fns 27 := by
  obtain ⟨fd, F⟩ := s.def_ 27 (d := dd 43 "state_region" "state_region") rfl
  exact ⟨_, fd, _, _, _, _, _, ["valve", "end", "state"], N_state_region, c_state_region, okX_fn X G c (f := 27) (by decide), F, scope_by (by decide +kernel), rfl, by decide +kernel, k_state_region, FunD.bindsN F fun _ _ _ _ _ _ us hl => match us, hl with | [_, _, _], _ => rfl, fun n ks pm hm => by
    have hm : (n, ks, pm) ∈ [(0, [("state" : Str), ("end" : Str), ("valve" : Str)], [2, 1, 0])] := hm
    simp only [List.mem_cons, List.not_mem_nil, or_false, Prod.mk.injEq] at hm
    rcases hm with ⟨rfl, rfl, rfl⟩
    · exact kwTo_of F fun kV doc pmv an cdv ct us ws vs h1 h2 h3 => match us, ws, h1, h2, h3 with
        | [], [_, _, _], _, _, h3 => by cases h3; rfl⟩
theorem f_is_side (X : K.In h) (G : h.Ns mainGlobals mg) (c : okX T gls K = true) (s : He.SaysD [] fnD K) : Fact P w K mg T fns 28 := by
  obtain ⟨fd, F⟩ := s.def_ 28 (d := dd 48 "is_side" "is_side") rfl
  exact ⟨_, fd, _, _, _, _, _, ["value"], N_is_side, c_is_side, okX_fn X G c (f := 28) (by decide), F, scope_by (by decide +kernel), rfl, by decide +kernel, k_is_side, FunD.bindsN F fun _ _ _ _ _ _ us hl => match us, hl with | [_], _ => rfl, fun n ks pm hm => by
    have hm : (n, ks, pm) ∈ ([] : List (Nat × List Str × List Nat)) := hm
    exact absurd hm (by simp)⟩
theorem f_are_trees (X : K.In h) (G : h.Ns mainGlobals mg) (c : okX T gls K = true) (s : He.SaysD [] fnD K) : Fact P w K mg T fns 29 := by
  obtain ⟨fd, F⟩ := s.def_ 29 (d := dd 49 "are_trees" "are_trees") rfl
  exact ⟨_, fd, _, _, _, _, _, ["value"], N_are_trees, c_are_trees, okX_fn X G c (f := 29) (by decide), F, scope_by (by decide +kernel), rfl, by decide +kernel, k_are_trees, FunD.bindsN F fun _ _ _ _ _ _ us hl => match us, hl with | [_], _ => rfl, fun n ks pm hm => by
    have hm : (n, ks, pm) ∈ ([] : List (Nat × List Str × List Nat)) := hm
    exact absurd hm (by simp)⟩
theorem f_sides_in (X : K.In h) (G : h.Ns mainGlobals mg) (c : okX T gls K = true) (s : He.SaysD [] fnD K) : Fact P w K mg T fns 30 := by
  obtain ⟨fd, F⟩ := s.def_ 30 (d := dd 50 "sides_in" "sides_in") rfl
  exact ⟨_, fd, _, _, _, _, _, ["value", "deep"], N_sides_in, c_sides_in, okX_fn X G c (f := 30) (by decide), F, scope_by (by decide +kernel), rfl, by decide +kernel, k_sides_in, FunD.bindsN F fun _ _ _ _ _ _ us hl => match us, hl with | [_, _], _ => rfl, fun n ks pm hm => by
    have hm : (n, ks, pm) ∈ ([] : List (Nat × List Str × List Nat)) := hm
    exact absurd hm (by simp)⟩
theorem f_is_region (X : K.In h) (G : h.Ns mainGlobals mg) (c : okX T gls K = true) (s : He.SaysD [] fnD K) : Fact P w K mg T fns 31 := by
  obtain ⟨fd, F⟩ := s.def_ 31 (d := dd 51 "is_region" "is_region") rfl
  exact ⟨_, fd, _, _, _, _, _, ["value"], N_is_region, c_is_region, okX_fn X G c (f := 31) (by decide), F, scope_by (by decide +kernel), rfl, by decide +kernel, k_is_region, FunD.bindsN F fun _ _ _ _ _ _ us hl => match us, hl with | [_], _ => rfl, fun n ks pm hm => by
    have hm : (n, ks, pm) ∈ ([] : List (Nat × List Str × List Nat)) := hm
    exact absurd hm (by simp)⟩
theorem f_check_region (X : K.In h) (G : h.Ns mainGlobals mg) (c : okX T gls K = true) (s : He.SaysD [] fnD K) : Fact P w K mg T fns 32 := by
  obtain ⟨fd, F⟩ := s.def_ 32 (d := dd 52 "check_region" "check_region") rfl
  exact ⟨_, fd, _, _, _, _, _, ["value"], N_check_region, c_check_region, okX_fn X G c (f := 32) (by decide), F, scope_by (by decide +kernel), rfl, by decide +kernel, k_check_region, FunD.bindsN F fun _ _ _ _ _ _ us hl => match us, hl with | [_], _ => rfl, fun n ks pm hm => by
    have hm : (n, ks, pm) ∈ ([] : List (Nat × List Str × List Nat)) := hm
    exact absurd hm (by simp)⟩
theorem f_lies_in (X : K.In h) (G : h.Ns mainGlobals mg) (c : okX T gls K = true) (s : He.SaysD [] fnD K) : Fact P w K mg T fns 33 := by
  obtain ⟨fd, F⟩ := s.def_ 33 (d := dd 53 "lies_in" "lies_in") rfl
  exact ⟨_, fd, _, _, _, _, _, ["tree", "angle"], N_lies_in, c_lies_in, okX_fn X G c (f := 33) (by decide), F, scope_by (by decide +kernel), rfl, by decide +kernel, k_lies_in, FunD.bindsN F fun _ _ _ _ _ _ us hl => match us, hl with | [_, _], _ => rfl, fun n ks pm hm => by
    have hm : (n, ks, pm) ∈ ([] : List (Nat × List Str × List Nat)) := hm
    exact absurd hm (by simp)⟩
theorem f_holds (X : K.In h) (G : h.Ns mainGlobals mg) (c : okX T gls K = true) (s : He.SaysD [] fnD K) : Fact P w K mg T fns 34 := by
  obtain ⟨fd, F⟩ := s.def_ 34 (d := dd 54 "holds" "holds") rfl
  exact ⟨_, fd, _, _, _, _, _, ["region", "angle"], N_holds, c_holds, okX_fn X G c (f := 34) (by decide), F, scope_by (by decide +kernel), rfl, by decide +kernel, k_holds, FunD.bindsN F fun _ _ _ _ _ _ us hl => match us, hl with | [_, _], _ => rfl, fun n ks pm hm => by
    have hm : (n, ks, pm) ∈ ([] : List (Nat × List Str × List Nat)) := hm
    exact absurd hm (by simp)⟩
theorem f_times (X : K.In h) (G : h.Ns mainGlobals mg) (c : okX T gls K = true) (s : He.SaysD [] fnD K) : Fact P w K mg T fns 35 := by
  obtain ⟨fd, F⟩ := s.def_ 35 (d := dd 56 "times" "times") rfl
  exact ⟨_, fd, _, _, _, _, _, ["vector", "number"], N_times, c_times, okX_fn X G c (f := 35) (by decide), F, scope_by (by decide +kernel), rfl, by decide +kernel, k_times, FunD.bindsN F fun _ _ _ _ _ _ us hl => match us, hl with | [_, _], _ => rfl, fun n ks pm hm => by
    have hm : (n, ks, pm) ∈ ([] : List (Nat × List Str × List Nat)) := hm
    exact absurd hm (by simp)⟩
theorem f_check_slack (X : K.In h) (G : h.Ns mainGlobals mg) (c : okX T gls K = true) (s : He.SaysD [] fnD K) : Fact P w K mg T fns 36 := by
  obtain ⟨fd, F⟩ := s.def_ 36 (d := dd 59 "check_slack" "check_slack") rfl
  exact ⟨_, fd, _, _, _, _, _, ["value"], N_check_slack, c_check_slack, okX_fn X G c (f := 36) (by decide), F, scope_by (by decide +kernel), rfl, by decide +kernel, k_check_slack, FunD.bindsN F fun _ _ _ _ _ _ us hl => match us, hl with | [_], _ => rfl, fun n ks pm hm => by
    have hm : (n, ks, pm) ∈ ([] : List (Nat × List Str × List Nat)) := hm
    exact absurd hm (by simp)⟩
theorem f_side_less (X : K.In h) (G : h.Ns mainGlobals mg) (c : okX T gls K = true) (s : He.SaysD [] fnD K) : Fact P w K mg T fns 37 := by
  obtain ⟨fd, F⟩ := s.def_ 37 (d := dd 60 "side_less" "side_less") rfl
  exact ⟨_, fd, _, _, _, _, _, ["side", "slack", "sign"], N_side_less, c_side_less, okX_fn X G c (f := 37) (by decide), F, scope_by (by decide +kernel), rfl, by decide +kernel, k_side_less, FunD.bindsN F fun _ _ _ _ _ _ us hl => match us, hl with | [_, _, _], _ => rfl, fun n ks pm hm => by
    have hm : (n, ks, pm) ∈ ([] : List (Nat × List Str × List Nat)) := hm
    exact absurd hm (by simp)⟩
theorem f_not_in (X : K.In h) (G : h.Ns mainGlobals mg) (c : okX T gls K = true) (s : He.SaysD [] fnD K) : Fact P w K mg T fns 38 := by
  obtain ⟨fd, F⟩ := s.def_ 38 (d := dd 61 "not_in" "not_in") rfl
  exact ⟨_, fd, _, _, _, _, _, ["tree"], N_not_in, c_not_in, okX_fn X G c (f := 38) (by decide), F, scope_by (by decide +kernel), rfl, by decide +kernel, k_not_in, FunD.bindsN F fun _ _ _ _ _ _ us hl => match us, hl with | [_], _ => rfl, fun n ks pm hm => by
    have hm : (n, ks, pm) ∈ ([] : List (Nat × List Str × List Nat)) := hm
    exact absurd hm (by simp)⟩
theorem f_sure_tree (X : K.In h) (G : h.Ns mainGlobals mg) (c : okX T gls K = true) (s : He.SaysD [] fnD K) : Fact P w K mg T fns 39 := by
  obtain ⟨fd, F⟩ := s.def_ 39 (d := dd 62 "sure_tree" "sure_tree") rfl
  exact ⟨_, fd, _, _, _, _, _, ["valve", "end", "state", "slack"], N_sure_tree, c_sure_tree, okX_fn X G c (f := 39) (by decide), F, scope_by (by decide +kernel), rfl, by decide +kernel, k_sure_tree, FunD.bindsN F fun _ _ _ _ _ _ us hl => match us, hl with | [_, _, _, _], _ => rfl, fun n ks pm hm => by
    have hm : (n, ks, pm) ∈ ([] : List (Nat × List Str × List Nat)) := hm
    exact absurd hm (by simp)⟩
theorem f_possible_tree (X : K.In h) (G : h.Ns mainGlobals mg) (c : okX T gls K = true) (s : He.SaysD [] fnD K) : Fact P w K mg T fns 40 := by
  obtain ⟨fd, F⟩ := s.def_ 40 (d := dd 63 "possible_tree" "possible_tree") rfl
  exact ⟨_, fd, _, _, _, _, _, ["valve", "end", "state", "slack"], N_possible_tree, c_possible_tree, okX_fn X G c (f := 40) (by decide), F, scope_by (by decide +kernel), rfl, by decide +kernel, k_possible_tree, FunD.bindsN F fun _ _ _ _ _ _ us hl => match us, hl with | [_, _, _, _], _ => rfl, fun n ks pm hm => by
    have hm : (n, ks, pm) ∈ ([] : List (Nat × List Str × List Nat)) := hm
    exact absurd hm (by simp)⟩
theorem f_sure_region (X : K.In h) (G : h.Ns mainGlobals mg) (c : okX T gls K = true) (s : He.SaysD [] fnD K) : Fact P w K mg T fns 41 := by
  obtain ⟨fd, F⟩ := s.def_ 41 (d := dd 64 "sure_region" "sure_region") rfl
  exact ⟨_, fd, _, _, _, _, _, ["valve", "end", "state", "slack"], N_sure_region, c_sure_region, okX_fn X G c (f := 41) (by decide), F, scope_by (by decide +kernel), rfl, by decide +kernel, k_sure_region, FunD.bindsN F fun _ _ _ _ _ _ us hl => match us, hl with | [_, _, _, _], _ => rfl, fun n ks pm hm => by
    have hm : (n, ks, pm) ∈ ([] : List (Nat × List Str × List Nat)) := hm
    exact absurd hm (by simp)⟩
theorem f_possible_region (X : K.In h) (G : h.Ns mainGlobals mg) (c : okX T gls K = true) (s : He.SaysD [] fnD K) : Fact P w K mg T fns 42 := by
  obtain ⟨fd, F⟩ := s.def_ 42 (d := dd 65 "possible_region" "possible_region") rfl
  exact ⟨_, fd, _, _, _, _, _, ["valve", "end", "state", "slack"], N_possible_region, c_possible_region, okX_fn X G c (f := 42) (by decide), F, scope_by (by decide +kernel), rfl, by decide +kernel, k_possible_region, FunD.bindsN F fun _ _ _ _ _ _ us hl => match us, hl with | [_, _, _, _], _ => rfl, fun n ks pm hm => by
    have hm : (n, ks, pm) ∈ [(0, [("slack" : Str), ("state" : Str), ("end" : Str), ("valve" : Str)], [3, 2, 1, 0])] := hm
    simp only [List.mem_cons, List.not_mem_nil, or_false, Prod.mk.injEq] at hm
    rcases hm with ⟨rfl, rfl, rfl⟩
    · exact kwTo_of F fun kV doc pmv an cdv ct us ws vs h1 h2 h3 => match us, ws, h1, h2, h3 with
        | [], [_, _, _, _], _, _, h3 => by cases h3; rfl⟩
theorem f__law_well (X : K.In h) (G : h.Ns mainGlobals mg) (c : okX T gls K = true) (s : He.SaysD [] fnD K) : Fact P w K mg T fns 43 := by
  obtain ⟨fd, F⟩ := s.def_ 43 (d := dd 67 "_law_well" "_law_well") rfl
  exact ⟨_, fd, _, _, _, _, _, ["script", "spot"], N__law_well, c__law_well, okX_fn X G c (f := 43) (by decide), F, scope_by (by decide +kernel), rfl, by decide +kernel, k__law_well, FunD.bindsN F fun _ _ _ _ _ _ us hl => match us, hl with | [_, _], _ => rfl, fun n ks pm hm => by
    have hm : (n, ks, pm) ∈ ([] : List (Nat × List Str × List Nat)) := hm
    exact absurd hm (by simp)⟩
theorem f__law_draw (X : K.In h) (G : h.Ns mainGlobals mg) (c : okX T gls K = true) (s : He.SaysD [] fnD K) : Fact P w K mg T fns 44 := by
  obtain ⟨fd, F⟩ := s.def_ 44 (d := dd 68 "_law_draw" "_law_draw") rfl
  exact ⟨_, fd, _, _, _, _, _, ["well", "many"], N__law_draw, c__law_draw, okX_fn X G c (f := 44) (by decide), F, scope_by (by decide +kernel), rfl, by decide +kernel, k__law_draw, FunD.bindsN F fun _ _ _ _ _ _ us hl => match us, hl with | [_, _], _ => rfl, fun n ks pm hm => by
    have hm : (n, ks, pm) ∈ ([] : List (Nat × List Str × List Nat)) := hm
    exact absurd hm (by simp)⟩
theorem f__law_pick (X : K.In h) (G : h.Ns mainGlobals mg) (c : okX T gls K = true) (s : He.SaysD [] fnD K) : Fact P w K mg T fns 45 := by
  obtain ⟨fd, F⟩ := s.def_ 45 (d := dd 69 "_law_pick" "_law_pick") rfl
  exact ⟨_, fd, _, _, _, _, _, ["well", "some"], N__law_pick, c__law_pick, okX_fn X G c (f := 45) (by decide), F, scope_by (by decide +kernel), rfl, by decide +kernel, k__law_pick, FunD.bindsN F fun _ _ _ _ _ _ us hl => match us, hl with | [_, _], _ => rfl, fun n ks pm hm => by
    have hm : (n, ks, pm) ∈ ([] : List (Nat × List Str × List Nat)) := hm
    exact absurd hm (by simp)⟩
theorem f__law_rounds (X : K.In h) (G : h.Ns mainGlobals mg) (c : okX T gls K = true) (s : He.SaysD [] fnD K) : Fact P w K mg T fns 46 := by
  obtain ⟨fd, F⟩ := s.def_ 46 (d := dd 70 "_law_rounds" "_law_rounds") rfl
  exact ⟨_, fd, _, _, _, _, _, ["script"], N__law_rounds, c__law_rounds, okX_fn X G c (f := 46) (by decide), F, scope_by (by decide +kernel), rfl, by decide +kernel, k__law_rounds, FunD.bindsN F fun _ _ _ _ _ _ us hl => match us, hl with | [_], _ => rfl, fun n ks pm hm => by
    have hm : (n, ks, pm) ∈ ([] : List (Nat × List Str × List Nat)) := hm
    exact absurd hm (by simp)⟩
theorem f__law_common (X : K.In h) (G : h.Ns mainGlobals mg) (c : okX T gls K = true) (s : He.SaysD [] fnD K) : Fact P w K mg T fns 47 := by
  obtain ⟨fd, F⟩ := s.def_ 47 (d := dd 71 "_law_common" "_law_common") rfl
  exact ⟨_, fd, _, _, _, _, _, ["one", "two"], N__law_common, c__law_common, okX_fn X G c (f := 47) (by decide), F, scope_by (by decide +kernel), rfl, by decide +kernel, k__law_common, FunD.bindsN F fun _ _ _ _ _ _ us hl => match us, hl with | [_, _], _ => rfl, fun n ks pm hm => by
    have hm : (n, ks, pm) ∈ ([] : List (Nat × List Str × List Nat)) := hm
    exact absurd hm (by simp)⟩
theorem f__law_number (X : K.In h) (G : h.Ns mainGlobals mg) (c : okX T gls K = true) (s : He.SaysD [] fnD K) : Fact P w K mg T fns 48 := by
  obtain ⟨fd, F⟩ := s.def_ 48 (d := dd 72 "_law_number" "_law_number") rfl
  exact ⟨_, fd, _, _, _, _, _, ["well"], N__law_number, c__law_number, okX_fn X G c (f := 48) (by decide), F, scope_by (by decide +kernel), rfl, by decide +kernel, k__law_number, FunD.bindsN F fun _ _ _ _ _ _ us hl => match us, hl with | [_], _ => rfl, fun n ks pm hm => by
    have hm : (n, ks, pm) ∈ ([] : List (Nat × List Str × List Nat)) := hm
    exact absurd hm (by simp)⟩
theorem f__law_sign (X : K.In h) (G : h.Ns mainGlobals mg) (c : okX T gls K = true) (s : He.SaysD [] fnD K) : Fact P w K mg T fns 49 := by
  obtain ⟨fd, F⟩ := s.def_ 49 (d := dd 73 "_law_sign" "_law_sign") rfl
  exact ⟨_, fd, _, _, _, _, _, ["number"], N__law_sign, c__law_sign, okX_fn X G c (f := 49) (by decide), F, scope_by (by decide +kernel), rfl, by decide +kernel, k__law_sign, FunD.bindsN F fun _ _ _ _ _ _ us hl => match us, hl with | [_], _ => rfl, fun n ks pm hm => by
    have hm : (n, ks, pm) ∈ ([] : List (Nat × List Str × List Nat)) := hm
    exact absurd hm (by simp)⟩
theorem f__law_sign_of_two (X : K.In h) (G : h.Ns mainGlobals mg) (c : okX T gls K = true) (s : He.SaysD [] fnD K) : Fact P w K mg T fns 50 := by
  obtain ⟨fd, F⟩ := s.def_ 50 (d := dd 74 "_law_sign_of_two" "_law_sign_of_two") rfl
  exact ⟨_, fd, _, _, _, _, _, ["p", "q", "d"], N__law_sign_of_two, c__law_sign_of_two, okX_fn X G c (f := 50) (by decide), F, scope_by (by decide +kernel), rfl, by decide +kernel, k__law_sign_of_two, FunD.bindsN F fun _ _ _ _ _ _ us hl => match us, hl with | [_, _, _], _ => rfl, fun n ks pm hm => by
    have hm : (n, ks, pm) ∈ ([] : List (Nat × List Str × List Nat)) := hm
    exact absurd hm (by simp)⟩
theorem f__law_norm (X : K.In h) (G : h.Ns mainGlobals mg) (c : okX T gls K = true) (s : He.SaysD [] fnD K) : Fact P w K mg T fns 51 := by
  obtain ⟨fd, F⟩ := s.def_ 51 (d := dd 75 "_law_norm" "_law_norm") rfl
  exact ⟨_, fd, _, _, _, _, _, ["form", "vector"], N__law_norm, c__law_norm, okX_fn X G c (f := 51) (by decide), F, scope_by (by decide +kernel), rfl, by decide +kernel, k__law_norm, FunD.bindsN F fun _ _ _ _ _ _ us hl => match us, hl with | [_, _], _ => rfl, fun n ks pm hm => by
    have hm : (n, ks, pm) ∈ ([] : List (Nat × List Str × List Nat)) := hm
    exact absurd hm (by simp)⟩
theorem f__law_reduced (X : K.In h) (G : h.Ns mainGlobals mg) (c : okX T gls K = true) (s : He.SaysD [] fnD K) : Fact P w K mg T fns 52 := by
  obtain ⟨fd, F⟩ := s.def_ 52 (d := dd 76 "_law_reduced" "_law_reduced") rfl
  exact ⟨_, fd, _, _, _, _, _, ["numbers"], N__law_reduced, c__law_reduced, okX_fn X G c (f := 52) (by decide), F, scope_by (by decide +kernel), rfl, by decide +kernel, k__law_reduced, FunD.bindsN F fun _ _ _ _ _ _ us hl => match us, hl with | [_], _ => rfl, fun n ks pm hm => by
    have hm : (n, ks, pm) ∈ ([] : List (Nat × List Str × List Nat)) := hm
    exact absurd hm (by simp)⟩
theorem f__law_root (X : K.In h) (G : h.Ns mainGlobals mg) (c : okX T gls K = true) (s : He.SaysD [] fnD K) : Fact P w K mg T fns 53 := by
  obtain ⟨fd, F⟩ := s.def_ 53 (d := dd 77 "_law_root" "_law_root") rfl
  exact ⟨_, fd, _, _, _, _, _, ["number"], N__law_root, c__law_root, okX_fn X G c (f := 53) (by decide), F, scope_by (by decide +kernel), rfl, by decide +kernel, k__law_root, FunD.bindsN F fun _ _ _ _ _ _ us hl => match us, hl with | [_], _ => rfl, fun n ks pm hm => by
    have hm : (n, ks, pm) ∈ ([] : List (Nat × List Str × List Nat)) := hm
    exact absurd hm (by simp)⟩
theorem f__law_vector (X : K.In h) (G : h.Ns mainGlobals mg) (c : okX T gls K = true) (s : He.SaysD [] fnD K) : Fact P w K mg T fns 54 := by
  obtain ⟨fd, F⟩ := s.def_ 54 (d := dd 78 "_law_vector" "_law_vector") rfl
  exact ⟨_, fd, _, _, _, _, _, ["well"], N__law_vector, c__law_vector, okX_fn X G c (f := 54) (by decide), F, scope_by (by decide +kernel), rfl, by decide +kernel, k__law_vector, FunD.bindsN F fun _ _ _ _ _ _ us hl => match us, hl with | [_], _ => rfl, fun n ks pm hm => by
    have hm : (n, ks, pm) ∈ ([] : List (Nat × List Str × List Nat)) := hm
    exact absurd hm (by simp)⟩
theorem f__law_arrow (X : K.In h) (G : h.Ns mainGlobals mg) (c : okX T gls K = true) (s : He.SaysD [] fnD K) : Fact P w K mg T fns 55 := by
  obtain ⟨fd, F⟩ := s.def_ 55 (d := dd 79 "_law_arrow" "_law_arrow") rfl
  exact ⟨_, fd, _, _, _, _, _, ["angle"], N__law_arrow, c__law_arrow, okX_fn X G c (f := 55) (by decide), F, scope_by (by decide +kernel), rfl, by decide +kernel, k__law_arrow, FunD.bindsN F fun _ _ _ _ _ _ us hl => match us, hl with | [_], _ => rfl, fun n ks pm hm => by
    have hm : (n, ks, pm) ∈ ([] : List (Nat × List Str × List Nat)) := hm
    exact absurd hm (by simp)⟩
theorem f__law_side (X : K.In h) (G : h.Ns mainGlobals mg) (c : okX T gls K = true) (s : He.SaysD [] fnD K) : Fact P w K mg T fns 56 := by
  obtain ⟨fd, F⟩ := s.def_ 56 (d := dd 80 "_law_side" "_law_side") rfl
  exact ⟨_, fd, _, _, _, _, _, ["angle", "vector", "level"], N__law_side, c__law_side, okX_fn X G c (f := 56) (by decide), F, scope_by (by decide +kernel), rfl, by decide +kernel, k__law_side, FunD.bindsN F fun _ _ _ _ _ _ us hl => match us, hl with | [_, _, _], _ => rfl, fun n ks pm hm => by
    have hm : (n, ks, pm) ∈ ([] : List (Nat × List Str × List Nat)) := hm
    exact absurd hm (by simp)⟩
theorem f__law_angle_at (X : K.In h) (G : h.Ns mainGlobals mg) (c : okX T gls K = true) (s : He.SaysD [] fnD K) : Fact P w K mg T fns 57 := by
  obtain ⟨fd, F⟩ := s.def_ 57 (d := dd 81 "_law_angle_at" "_law_angle_at") rfl
  exact ⟨_, fd, _, _, _, _, _, ["form", "way", "vector"], N__law_angle_at, c__law_angle_at, okX_fn X G c (f := 57) (by decide), F, scope_by (by decide +kernel), rfl, by decide +kernel, k__law_angle_at, FunD.bindsN F fun _ _ _ _ _ _ us hl => match us, hl with | [_, _, _], _ => rfl, fun n ks pm hm => by
    have hm : (n, ks, pm) ∈ ([] : List (Nat × List Str × List Nat)) := hm
    exact absurd hm (by simp)⟩
theorem f__law_whole_way (X : K.In h) (G : h.Ns mainGlobals mg) (c : okX T gls K = true) (s : He.SaysD [] fnD K) : Fact P w K mg T fns 58 := by
  obtain ⟨fd, F⟩ := s.def_ 58 (d := dd 82 "_law_whole_way" "_law_whole_way") rfl
  exact ⟨_, fd, _, _, _, _, _, ["well", "form"], N__law_whole_way, c__law_whole_way, okX_fn X G c (f := 58) (by decide), F, scope_by (by decide +kernel), rfl, by decide +kernel, k__law_whole_way, FunD.bindsN F fun _ _ _ _ _ _ us hl => match us, hl with | [_, _], _ => rfl, fun n ks pm hm => by
    have hm : (n, ks, pm) ∈ ([] : List (Nat × List Str × List Nat)) := hm
    exact absurd hm (by simp)⟩
theorem f__law_angle (X : K.In h) (G : h.Ns mainGlobals mg) (c : okX T gls K = true) (s : He.SaysD [] fnD K) : Fact P w K mg T fns 59 := by
  obtain ⟨fd, F⟩ := s.def_ 59 (d := dd 83 "_law_angle" "_law_angle") rfl
  exact ⟨_, fd, _, _, _, _, _, ["well", "form"], N__law_angle, c__law_angle, okX_fn X G c (f := 59) (by decide), F, scope_by (by decide +kernel), rfl, by decide +kernel, k__law_angle, FunD.bindsN F fun _ _ _ _ _ _ us hl => match us, hl with | [_, _], _ => rfl, fun n ks pm hm => by
    have hm : (n, ks, pm) ∈ ([] : List (Nat × List Str × List Nat)) := hm
    exact absurd hm (by simp)⟩
theorem f__law_valve (X : K.In h) (G : h.Ns mainGlobals mg) (c : okX T gls K = true) (s : He.SaysD [] fnD K) : Fact P w K mg T fns 60 := by
  obtain ⟨fd, F⟩ := s.def_ 60 (d := dd 84 "_law_valve" "_law_valve") rfl
  exact ⟨_, fd, _, _, _, _, _, ["well", "form"], N__law_valve, c__law_valve, okX_fn X G c (f := 60) (by decide), F, scope_by (by decide +kernel), rfl, by decide +kernel, k__law_valve, FunD.bindsN F fun _ _ _ _ _ _ us hl => match us, hl with | [_, _], _ => rfl, fun n ks pm hm => by
    have hm : (n, ks, pm) ∈ ([] : List (Nat × List Str × List Nat)) := hm
    exact absurd hm (by simp)⟩
theorem f__law_state (X : K.In h) (G : h.Ns mainGlobals mg) (c : okX T gls K = true) (s : He.SaysD [] fnD K) : Fact P w K mg T fns 61 := by
  obtain ⟨fd, F⟩ := s.def_ 61 (d := dd 85 "_law_state" "_law_state") rfl
  exact ⟨_, fd, _, _, _, _, _, ["valve", "end", "angle"], N__law_state, c__law_state, okX_fn X G c (f := 61) (by decide), F, scope_by (by decide +kernel), rfl, by decide +kernel, k__law_state, FunD.bindsN F fun _ _ _ _ _ _ us hl => match us, hl with | [_, _, _], _ => rfl, fun n ks pm hm => by
    have hm : (n, ks, pm) ∈ ([] : List (Nat × List Str × List Nat)) := hm
    exact absurd hm (by simp)⟩
theorem f__law_plans (X : K.In h) (G : h.Ns mainGlobals mg) (c : okX T gls K = true) (s : He.SaysD [] fnD K) : Fact P w K mg T fns 62 := by
  obtain ⟨fd, F⟩ := s.def_ 62 (d := dd 86 "_law_plans" "_law_plans") rfl
  exact ⟨_, fd, _, _, _, _, _, ["valve"], N__law_plans, c__law_plans, okX_fn X G c (f := 62) (by decide), F, scope_by (by decide +kernel), rfl, by decide +kernel, k__law_plans, FunD.bindsN F fun _ _ _ _ _ _ us hl => match us, hl with | [_], _ => rfl, fun n ks pm hm => by
    have hm : (n, ks, pm) ∈ ([] : List (Nat × List Str × List Nat)) := hm
    exact absurd hm (by simp)⟩
theorem f__law_events (X : K.In h) (G : h.Ns mainGlobals mg) (c : okX T gls K = true) (s : He.SaysD [] fnD K) : Fact P w K mg T fns 63 := by
  obtain ⟨fd, F⟩ := s.def_ 63 (d := dd 87 "_law_events" "_law_events") rfl
  exact ⟨_, fd, _, _, _, _, _, ["valve"], N__law_events, c__law_events, okX_fn X G c (f := 63) (by decide), F, scope_by (by decide +kernel), rfl, by decide +kernel, k__law_events, FunD.bindsN F fun _ _ _ _ _ _ us hl => match us, hl with | [_], _ => rfl, fun n ks pm hm => by
    have hm : (n, ks, pm) ∈ ([] : List (Nat × List Str × List Nat)) := hm
    exact absurd hm (by simp)⟩
theorem f__law_moved (X : K.In h) (G : h.Ns mainGlobals mg) (c : okX T gls K = true) (s : He.SaysD [] fnD K) : Fact P w K mg T fns 64 := by
  obtain ⟨fd, F⟩ := s.def_ 64 (d := dd 88 "_law_moved" "_law_moved") rfl
  exact ⟨_, fd, _, _, _, _, _, ["valve", "shift"], N__law_moved, c__law_moved, okX_fn X G c (f := 64) (by decide), F, scope_by (by decide +kernel), rfl, by decide +kernel, k__law_moved, FunD.bindsN F fun _ _ _ _ _ _ us hl => match us, hl with | [_, _], _ => rfl, fun n ks pm hm => by
    have hm : (n, ks, pm) ∈ ([] : List (Nat × List Str × List Nat)) := hm
    exact absurd hm (by simp)⟩
theorem f__law_slack (X : K.In h) (G : h.Ns mainGlobals mg) (c : okX T gls K = true) (s : He.SaysD [] fnD K) : Fact P w K mg T fns 65 := by
  obtain ⟨fd, F⟩ := s.def_ 65 (d := dd 89 "_law_slack" "_law_slack") rfl
  exact ⟨_, fd, _, _, _, _, _, ["well", "valve"], N__law_slack, c__law_slack, okX_fn X G c (f := 65) (by decide), F, scope_by (by decide +kernel), rfl, by decide +kernel, k__law_slack, FunD.bindsN F fun _ _ _ _ _ _ us hl => match us, hl with | [_, _], _ => rfl, fun n ks pm hm => by
    have hm : (n, ks, pm) ∈ ([] : List (Nat × List Str × List Nat)) := hm
    exact absurd hm (by simp)⟩
theorem f__law_states_within (X : K.In h) (G : h.Ns mainGlobals mg) (c : okX T gls K = true) (s : He.SaysD [] fnD K) : Fact P w K mg T fns 66 := by
  obtain ⟨fd, F⟩ := s.def_ 66 (d := dd 90 "_law_states_within" "_law_states_within") rfl
  exact ⟨_, fd, _, _, _, _, _, ["valve", "end", "angle", "slack"], N__law_states_within, c__law_states_within, okX_fn X G c (f := 66) (by decide), F, scope_by (by decide +kernel), rfl, by decide +kernel, k__law_states_within, FunD.bindsN F fun _ _ _ _ _ _ us hl => match us, hl with | [_, _, _, _], _ => rfl, fun n ks pm hm => by
    have hm : (n, ks, pm) ∈ ([] : List (Nat × List Str × List Nat)) := hm
    exact absurd hm (by simp)⟩
theorem f__law_slack_right (X : K.In h) (G : h.Ns mainGlobals mg) (c : okX T gls K = true) (s : He.SaysD [] fnD K) : Fact P w K mg T fns 67 := by
  obtain ⟨fd, F⟩ := s.def_ 67 (d := dd 91 "_law_slack_right" "_law_slack_right") rfl
  exact ⟨_, fd, _, _, _, _, _, ["well", "valve", "some"], N__law_slack_right, c__law_slack_right, okX_fn X G c (f := 67) (by decide), F, scope_by (by decide +kernel), rfl, by decide +kernel, k__law_slack_right, FunD.bindsN F fun _ _ _ _ _ _ us hl => match us, hl with | [_, _, _], _ => rfl, fun n ks pm hm => by
    have hm : (n, ks, pm) ∈ ([] : List (Nat × List Str × List Nat)) := hm
    exact absurd hm (by simp)⟩
theorem f__law_right (X : K.In h) (G : h.Ns mainGlobals mg) (c : okX T gls K = true) (s : He.SaysD [] fnD K) : Fact P w K mg T fns 68 := by
  obtain ⟨fd, F⟩ := s.def_ 68 (d := dd 92 "_law_right" "_law_right") rfl
  exact ⟨_, fd, _, _, _, _, _, ["well"], N__law_right, c__law_right, okX_fn X G c (f := 68) (by decide), F, scope_by (by decide +kernel), rfl, by decide +kernel, k__law_right, FunD.bindsN F fun _ _ _ _ _ _ us hl => match us, hl with | [_], _ => rfl, fun n ks pm hm => by
    have hm : (n, ks, pm) ∈ ([] : List (Nat × List Str × List Nat)) := hm
    exact absurd hm (by simp)⟩
theorem f_law (X : K.In h) (G : h.Ns mainGlobals mg) (c : okX T gls K = true) (s : He.SaysD [] fnD K) : Fact P w K mg T fns 69 := by
  obtain ⟨fd, F⟩ := s.def_ 69 (d := dd 93 "law" "law") rfl
  exact ⟨_, fd, _, _, _, _, _, ["script"], N_law, c_law, okX_fn X G c (f := 69) (by decide), F, scope_by (by decide +kernel), rfl, by decide +kernel, k_law, FunD.bindsN F fun _ _ _ _ _ _ us hl => match us, hl with | [_], _ => rfl, fun n ks pm hm => by
    have hm : (n, ks, pm) ∈ ([] : List (Nat × List Str × List Nat)) := hm
    exact absurd hm (by simp)⟩
theorem facts (X : K.In h) (G : h.Ns mainGlobals mg) (c : okX T gls K = true) (s : He.SaysD [] fnD K) : ∀ f, f < T.nf → Fact P w K mg T fns f := fun f hf => match f, hf with
  | 0, _ => f_is_whole X G c s
  | 1, _ => f_is_between X G c s
  | 2, _ => f_are_wholes X G c s
  | 3, _ => f_is_ratio X G c s
  | 4, _ => f_common X G c s
  | 5, _ => f_sign_of X G c s
  | 6, _ => f_root_sign X G c s
  | 7, _ => f_product X G c s
  | 8, _ => f_cross X G c s
  | 9, _ => f_norm X G c s
  | 10, _ => f_is_angle X G c s
  | 11, _ => f_check_angle X G c s
  | 12, _ => f_check_form_of X G c s
  | 13, _ => f_square_at X G c s
  | 14, _ => f_sign_at X G c s
  | 15, _ => f_numbers_of X G c s
  | 16, _ => f_is_port X G c s
  | 17, _ => f_is_valve X G c s
  | 18, _ => f_check_valve X G c s
  | 19, _ => f_check_end X G c s
  | 20, _ => f_check_word X G c s
  | 21, _ => f_against X G c s
  | 22, _ => f_sides_at X G c s
  | 23, _ => f_word_of X G c s
  | 24, _ => f_state_of X G c s
  | 25, _ => f_region_of_state X G c s
  | 26, _ => f_state_at X G c s
  | 27, _ => f_state_region X G c s
  | 28, _ => f_is_side X G c s
  | 29, _ => f_are_trees X G c s
  | 30, _ => f_sides_in X G c s
  | 31, _ => f_is_region X G c s
  | 32, _ => f_check_region X G c s
  | 33, _ => f_lies_in X G c s
  | 34, _ => f_holds X G c s
  | 35, _ => f_times X G c s
  | 36, _ => f_check_slack X G c s
  | 37, _ => f_side_less X G c s
  | 38, _ => f_not_in X G c s
  | 39, _ => f_sure_tree X G c s
  | 40, _ => f_possible_tree X G c s
  | 41, _ => f_sure_region X G c s
  | 42, _ => f_possible_region X G c s
  | 43, _ => f__law_well X G c s
  | 44, _ => f__law_draw X G c s
  | 45, _ => f__law_pick X G c s
  | 46, _ => f__law_rounds X G c s
  | 47, _ => f__law_common X G c s
  | 48, _ => f__law_number X G c s
  | 49, _ => f__law_sign X G c s
  | 50, _ => f__law_sign_of_two X G c s
  | 51, _ => f__law_norm X G c s
  | 52, _ => f__law_reduced X G c s
  | 53, _ => f__law_root X G c s
  | 54, _ => f__law_vector X G c s
  | 55, _ => f__law_arrow X G c s
  | 56, _ => f__law_side X G c s
  | 57, _ => f__law_angle_at X G c s
  | 58, _ => f__law_whole_way X G c s
  | 59, _ => f__law_angle X G c s
  | 60, _ => f__law_valve X G c s
  | 61, _ => f__law_state X G c s
  | 62, _ => f__law_plans X G c s
  | 63, _ => f__law_events X G c s
  | 64, _ => f__law_moved X G c s
  | 65, _ => f__law_slack X G c s
  | 66, _ => f__law_states_within X G c s
  | 67, _ => f__law_slack_right X G c s
  | 68, _ => f__law_right X G c s
  | 69, _ => f_law X G c s
  | n + 70, hf => absurd (show n + 70 < 70 from hf) (by omega)
end
abbrev gl (i : Nat) : Option PyData := gls[i]?
noncomputable abbrev sm (k : Nat) : Sm := smk gl fns k
theorem r_is_whole (k : Nat) (a0 : W) : (sm (k + 1)).call 0 [a0] = finM (exSs (sm k) c_is_whole [some a0]) := runF_M (sm k) 1 1 c_is_whole [a0] rfl
theorem r_is_between (k : Nat) (a0 a1 a2 : W) : (sm (k + 1)).call 1 [a0, a1, a2] = finM (exSs (sm k) c_is_between [some a0, some a1, some a2]) := runF_M (sm k) 3 3 c_is_between [a0, a1, a2] rfl
theorem r_are_wholes (k : Nat) (a0 a1 : W) : (sm (k + 1)).call 2 [a0, a1] = finM (exSs (sm k) c_are_wholes [some a0, some a1, none]) := runF_M (sm k) 2 3 c_are_wholes [a0, a1] rfl
theorem r_is_ratio (k : Nat) (a0 : W) : (sm (k + 1)).call 3 [a0] = finM (exSs (sm k) c_is_ratio [some a0]) := runF_M (sm k) 1 1 c_is_ratio [a0] rfl
theorem r_common (k : Nat) (a0 : W) : (sm (k + 1)).call 4 [a0] = finM (exSs (sm k) c_common [some a0, none, none]) := runF_M (sm k) 1 3 c_common [a0] rfl
theorem r_sign_of (k : Nat) (a0 : W) : (sm (k + 1)).call 5 [a0] = finM (exSs (sm k) c_sign_of [some a0]) := runF_M (sm k) 1 1 c_sign_of [a0] rfl
theorem r_root_sign (k : Nat) (a0 a1 a2 : W) : (sm (k + 1)).call 6 [a0, a1, a2] = finM (exSs (sm k) c_root_sign [some a0, some a1, some a2, none, none]) := runF_M (sm k) 3 5 c_root_sign [a0, a1, a2] rfl
theorem r_product (k : Nat) (a0 a1 a2 : W) : (sm (k + 1)).call 7 [a0, a1, a2] = finM (exSs (sm k) c_product [some a0, some a1, some a2]) := runF_M (sm k) 3 3 c_product [a0, a1, a2] rfl
theorem r_cross (k : Nat) (a0 a1 : W) : (sm (k + 1)).call 8 [a0, a1] = finM (exSs (sm k) c_cross [some a0, some a1]) := runF_M (sm k) 2 2 c_cross [a0, a1] rfl
theorem r_norm (k : Nat) (a0 a1 : W) : (sm (k + 1)).call 9 [a0, a1] = finM (exSs (sm k) c_norm [some a0, some a1]) := runF_M (sm k) 2 2 c_norm [a0, a1] rfl
theorem r_is_angle (k : Nat) (a0 : W) : (sm (k + 1)).call 10 [a0] = finM (exSs (sm k) c_is_angle [some a0]) := runF_M (sm k) 1 1 c_is_angle [a0] rfl
theorem r_check_angle (k : Nat) (a0 : W) : (sm (k + 1)).call 11 [a0] = finM (exSs (sm k) c_check_angle [some a0]) := runF_M (sm k) 1 1 c_check_angle [a0] rfl
theorem r_check_form_of (k : Nat) (a0 a1 : W) : (sm (k + 1)).call 12 [a0, a1] = finM (exSs (sm k) c_check_form_of [some a0, some a1]) := runF_M (sm k) 2 2 c_check_form_of [a0, a1] rfl
theorem r_square_at (k : Nat) (a0 : W) : (sm (k + 1)).call 13 [a0] = finM (exSs (sm k) c_square_at [some a0]) := runF_M (sm k) 1 1 c_square_at [a0] rfl
theorem r_sign_at (k : Nat) (a0 a1 a2 : W) : (sm (k + 1)).call 14 [a0, a1, a2] = finM (exSs (sm k) c_sign_at [some a0, some a1, some a2, none, none, none, none]) := runF_M (sm k) 3 7 c_sign_at [a0, a1, a2] rfl
theorem r_numbers_of (k : Nat) (a0 : W) : (sm (k + 1)).call 15 [a0] = finM (exSs (sm k) c_numbers_of [some a0]) := runF_M (sm k) 1 1 c_numbers_of [a0] rfl
theorem r_is_port (k : Nat) (a0 : W) : (sm (k + 1)).call 16 [a0] = finM (exSs (sm k) c_is_port [some a0]) := runF_M (sm k) 1 1 c_is_port [a0] rfl
theorem r_is_valve (k : Nat) (a0 : W) : (sm (k + 1)).call 17 [a0] = finM (exSs (sm k) c_is_valve [some a0]) := runF_M (sm k) 1 1 c_is_valve [a0] rfl
theorem r_check_valve (k : Nat) (a0 : W) : (sm (k + 1)).call 18 [a0] = finM (exSs (sm k) c_check_valve [some a0]) := runF_M (sm k) 1 1 c_check_valve [a0] rfl
theorem r_check_end (k : Nat) (a0 : W) : (sm (k + 1)).call 19 [a0] = finM (exSs (sm k) c_check_end [some a0]) := runF_M (sm k) 1 1 c_check_end [a0] rfl
theorem r_check_word (k : Nat) (a0 a1 : W) : (sm (k + 1)).call 20 [a0, a1] = finM (exSs (sm k) c_check_word [some a0, some a1]) := runF_M (sm k) 2 2 c_check_word [a0, a1] rfl
theorem r_against (k : Nat) (a0 : W) : (sm (k + 1)).call 21 [a0] = finM (exSs (sm k) c_against [some a0]) := runF_M (sm k) 1 1 c_against [a0] rfl
theorem r_sides_at (k : Nat) (a0 a1 : W) : (sm (k + 1)).call 22 [a0, a1] = finM (exSs (sm k) c_sides_at [some a0, some a1, none, none]) := runF_M (sm k) 2 4 c_sides_at [a0, a1] rfl
theorem r_word_of (k : Nat) (a0 a1 : W) : (sm (k + 1)).call 23 [a0, a1] = finM (exSs (sm k) c_word_of [some a0, some a1]) := runF_M (sm k) 2 2 c_word_of [a0, a1] rfl
theorem r_state_of (k : Nat) (a0 a1 a2 : W) : (sm (k + 1)).call 24 [a0, a1, a2] = finM (exSs (sm k) c_state_of [some a0, some a1, some a2, none, none]) := runF_M (sm k) 3 5 c_state_of [a0, a1, a2] rfl
theorem r_region_of_state (k : Nat) (a0 a1 a2 : W) : (sm (k + 1)).call 25 [a0, a1, a2] = finM (exSs (sm k) c_region_of_state [some a0, some a1, some a2, none, none, none, none, none, none]) := runF_M (sm k) 3 9 c_region_of_state [a0, a1, a2] rfl
theorem r_state_at (k : Nat) (a0 a1 a2 : W) : (sm (k + 1)).call 26 [a0, a1, a2] = finM (exSs (sm k) c_state_at [some a0, some a1, some a2]) := runF_M (sm k) 3 3 c_state_at [a0, a1, a2] rfl
theorem r_state_region (k : Nat) (a0 a1 a2 : W) : (sm (k + 1)).call 27 [a0, a1, a2] = finM (exSs (sm k) c_state_region [some a0, some a1, some a2]) := runF_M (sm k) 3 3 c_state_region [a0, a1, a2] rfl
theorem r_is_side (k : Nat) (a0 : W) : (sm (k + 1)).call 28 [a0] = finM (exSs (sm k) c_is_side [some a0]) := runF_M (sm k) 1 1 c_is_side [a0] rfl
theorem r_are_trees (k : Nat) (a0 : W) : (sm (k + 1)).call 29 [a0] = finM (exSs (sm k) c_are_trees [some a0]) := runF_M (sm k) 1 1 c_are_trees [a0] rfl
theorem r_sides_in (k : Nat) (a0 a1 : W) : (sm (k + 1)).call 30 [a0, a1] = finM (exSs (sm k) c_sides_in [some a0, some a1, none]) := runF_M (sm k) 2 3 c_sides_in [a0, a1] rfl
theorem r_is_region (k : Nat) (a0 : W) : (sm (k + 1)).call 31 [a0] = finM (exSs (sm k) c_is_region [some a0]) := runF_M (sm k) 1 1 c_is_region [a0] rfl
theorem r_check_region (k : Nat) (a0 : W) : (sm (k + 1)).call 32 [a0] = finM (exSs (sm k) c_check_region [some a0]) := runF_M (sm k) 1 1 c_check_region [a0] rfl
theorem r_lies_in (k : Nat) (a0 a1 : W) : (sm (k + 1)).call 33 [a0, a1] = finM (exSs (sm k) c_lies_in [some a0, some a1, none, none]) := runF_M (sm k) 2 4 c_lies_in [a0, a1] rfl
theorem r_holds (k : Nat) (a0 a1 : W) : (sm (k + 1)).call 34 [a0, a1] = finM (exSs (sm k) c_holds [some a0, some a1]) := runF_M (sm k) 2 2 c_holds [a0, a1] rfl
theorem r_times (k : Nat) (a0 a1 : W) : (sm (k + 1)).call 35 [a0, a1] = finM (exSs (sm k) c_times [some a0, some a1]) := runF_M (sm k) 2 2 c_times [a0, a1] rfl
theorem r_check_slack (k : Nat) (a0 : W) : (sm (k + 1)).call 36 [a0] = finM (exSs (sm k) c_check_slack [some a0]) := runF_M (sm k) 1 1 c_check_slack [a0] rfl
theorem r_side_less (k : Nat) (a0 a1 a2 : W) : (sm (k + 1)).call 37 [a0, a1, a2] = finM (exSs (sm k) c_side_less [some a0, some a1, some a2, none, none]) := runF_M (sm k) 3 5 c_side_less [a0, a1, a2] rfl
theorem r_not_in (k : Nat) (a0 : W) : (sm (k + 1)).call 38 [a0] = finM (exSs (sm k) c_not_in [some a0]) := runF_M (sm k) 1 1 c_not_in [a0] rfl
theorem r_sure_tree (k : Nat) (a0 a1 a2 a3 : W) : (sm (k + 1)).call 39 [a0, a1, a2, a3] = finM (exSs (sm k) c_sure_tree [some a0, some a1, some a2, some a3, none, none, none, none]) := runF_M (sm k) 4 8 c_sure_tree [a0, a1, a2, a3] rfl
theorem r_possible_tree (k : Nat) (a0 a1 a2 a3 : W) : (sm (k + 1)).call 40 [a0, a1, a2, a3] = finM (exSs (sm k) c_possible_tree [some a0, some a1, some a2, some a3, none, none, none, none, none]) := runF_M (sm k) 4 9 c_possible_tree [a0, a1, a2, a3] rfl
theorem r_sure_region (k : Nat) (a0 a1 a2 a3 : W) : (sm (k + 1)).call 41 [a0, a1, a2, a3] = finM (exSs (sm k) c_sure_region [some a0, some a1, some a2, some a3]) := runF_M (sm k) 4 4 c_sure_region [a0, a1, a2, a3] rfl
theorem r_possible_region (k : Nat) (a0 a1 a2 a3 : W) : (sm (k + 1)).call 42 [a0, a1, a2, a3] = finM (exSs (sm k) c_possible_region [some a0, some a1, some a2, some a3]) := runF_M (sm k) 4 4 c_possible_region [a0, a1, a2, a3] rfl
theorem r__law_well (k : Nat) (a0 a1 : W) : (sm (k + 1)).call 43 [a0, a1] = finM (exSs (sm k) c__law_well [some a0, some a1, none, none, none, none]) := runF_M (sm k) 2 6 c__law_well [a0, a1] rfl
theorem r__law_draw (k : Nat) (a0 a1 : W) : (sm (k + 1)).call 44 [a0, a1] = finM (exSs (sm k) c__law_draw [some a0, some a1, none, none]) := runF_M (sm k) 2 4 c__law_draw [a0, a1] rfl
theorem r__law_pick (k : Nat) (a0 a1 : W) : (sm (k + 1)).call 45 [a0, a1] = finM (exSs (sm k) c__law_pick [some a0, some a1]) := runF_M (sm k) 2 2 c__law_pick [a0, a1] rfl
theorem r__law_rounds (k : Nat) (a0 : W) : (sm (k + 1)).call 46 [a0] = finM (exSs (sm k) c__law_rounds [some a0]) := runF_M (sm k) 1 1 c__law_rounds [a0] rfl
theorem r__law_common (k : Nat) (a0 a1 : W) : (sm (k + 1)).call 47 [a0, a1] = finM (exSs (sm k) c__law_common [some a0, some a1, none, none]) := runF_M (sm k) 2 4 c__law_common [a0, a1] rfl
theorem r__law_number (k : Nat) (a0 : W) : (sm (k + 1)).call 48 [a0] = finM (exSs (sm k) c__law_number [some a0, none]) := runF_M (sm k) 1 2 c__law_number [a0] rfl
theorem r__law_sign (k : Nat) (a0 : W) : (sm (k + 1)).call 49 [a0] = finM (exSs (sm k) c__law_sign [some a0]) := runF_M (sm k) 1 1 c__law_sign [a0] rfl
theorem r__law_sign_of_two (k : Nat) (a0 a1 a2 : W) : (sm (k + 1)).call 50 [a0, a1, a2] = finM (exSs (sm k) c__law_sign_of_two [some a0, some a1, some a2, none, none]) := runF_M (sm k) 3 5 c__law_sign_of_two [a0, a1, a2] rfl
theorem r__law_norm (k : Nat) (a0 a1 : W) : (sm (k + 1)).call 51 [a0, a1] = finM (exSs (sm k) c__law_norm [some a0, some a1]) := runF_M (sm k) 2 2 c__law_norm [a0, a1] rfl
theorem r__law_reduced (k : Nat) (a0 : W) : (sm (k + 1)).call 52 [a0] = finM (exSs (sm k) c__law_reduced [some a0, none, none]) := runF_M (sm k) 1 3 c__law_reduced [a0] rfl
theorem r__law_root (k : Nat) (a0 : W) : (sm (k + 1)).call 53 [a0] = finM (exSs (sm k) c__law_root [some a0, none, none, none]) := runF_M (sm k) 1 4 c__law_root [a0] rfl
theorem r__law_vector (k : Nat) (a0 : W) : (sm (k + 1)).call 54 [a0] = finM (exSs (sm k) c__law_vector [some a0, none, none]) := runF_M (sm k) 1 3 c__law_vector [a0] rfl
theorem r__law_arrow (k : Nat) (a0 : W) : (sm (k + 1)).call 55 [a0] = finM (exSs (sm k) c__law_arrow [some a0, none, none, none, none, none]) := runF_M (sm k) 1 6 c__law_arrow [a0] rfl
theorem r__law_side (k : Nat) (a0 a1 a2 : W) : (sm (k + 1)).call 56 [a0, a1, a2] = finM (exSs (sm k) c__law_side [some a0, some a1, some a2, none, none, none, none, none]) := runF_M (sm k) 3 8 c__law_side [a0, a1, a2] rfl
theorem r__law_angle_at (k : Nat) (a0 a1 a2 : W) : (sm (k + 1)).call 57 [a0, a1, a2] = finM (exSs (sm k) c__law_angle_at [some a0, some a1, some a2, none, none, none, none]) := runF_M (sm k) 3 7 c__law_angle_at [a0, a1, a2] rfl
theorem r__law_whole_way (k : Nat) (a0 a1 : W) : (sm (k + 1)).call 58 [a0, a1] = finM (exSs (sm k) c__law_whole_way [some a0, some a1, none, none, none, none]) := runF_M (sm k) 2 6 c__law_whole_way [a0, a1] rfl
theorem r__law_angle (k : Nat) (a0 a1 : W) : (sm (k + 1)).call 59 [a0, a1] = finM (exSs (sm k) c__law_angle [some a0, some a1, none, none, none, none, none]) := runF_M (sm k) 2 7 c__law_angle [a0, a1] rfl
theorem r__law_valve (k : Nat) (a0 a1 : W) : (sm (k + 1)).call 60 [a0, a1] = finM (exSs (sm k) c__law_valve [some a0, some a1, none, none, none, none, none, none, none, none, none]) := runF_M (sm k) 2 11 c__law_valve [a0, a1] rfl
theorem r__law_state (k : Nat) (a0 a1 a2 : W) : (sm (k + 1)).call 61 [a0, a1, a2] = finM (exSs (sm k) c__law_state [some a0, some a1, some a2, none, none, none, none, none, none, none, none, none]) := runF_M (sm k) 3 12 c__law_state [a0, a1, a2] rfl
theorem r__law_plans (k : Nat) (a0 : W) : (sm (k + 1)).call 62 [a0] = finM (exSs (sm k) c__law_plans [some a0, none, none, none, none, none, none]) := runF_M (sm k) 1 7 c__law_plans [a0] rfl
theorem r__law_events (k : Nat) (a0 : W) : (sm (k + 1)).call 63 [a0] = finM (exSs (sm k) c__law_events [some a0, none, none, none, none, none, none, none, none, none, none]) := runF_M (sm k) 1 11 c__law_events [a0] rfl
theorem r__law_moved (k : Nat) (a0 a1 : W) : (sm (k + 1)).call 64 [a0, a1] = finM (exSs (sm k) c__law_moved [some a0, some a1, none, none, none, none, none, none, none, none, none, none]) := runF_M (sm k) 2 12 c__law_moved [a0, a1] rfl
theorem r__law_slack (k : Nat) (a0 a1 : W) : (sm (k + 1)).call 65 [a0, a1] = finM (exSs (sm k) c__law_slack [some a0, some a1, none, none, none, none, none]) := runF_M (sm k) 2 7 c__law_slack [a0, a1] rfl
theorem r__law_states_within (k : Nat) (a0 a1 a2 a3 : W) : (sm (k + 1)).call 66 [a0, a1, a2, a3] = finM (exSs (sm k) c__law_states_within [some a0, some a1, some a2, some a3, none, none, none, none, none, none, none, none]) := runF_M (sm k) 4 12 c__law_states_within [a0, a1, a2, a3] rfl
theorem r__law_slack_right (k : Nat) (a0 a1 a2 : W) : (sm (k + 1)).call 67 [a0, a1, a2] = finM (exSs (sm k) c__law_slack_right [some a0, some a1, some a2, none, none, none, none, none, none, none, none, none, none, none, none, none, none, none, none, none, none]) := runF_M (sm k) 3 21 c__law_slack_right [a0, a1, a2] rfl
theorem r__law_right (k : Nat) (a0 : W) : (sm (k + 1)).call 68 [a0] = finM (exSs (sm k) c__law_right [some a0, none, none, none, none, none, none, none, none, none, none, none]) := runF_M (sm k) 1 12 c__law_right [a0] rfl
theorem r_law (k : Nat) (a0 : W) : (sm (k + 1)).call 69 [a0] = finM (exSs (sm k) c_law [some a0, none]) := runF_M (sm k) 1 2 c_law [a0] rfl
end G20

namespace G20
open PySem PySem.Spec PyProof.Rows L2 DL
def isW : PyData → Bool
  | .int _ => true
  | _ => false
@[simp] theorem isW_int (i : Int) : isW (.int i) = true := rfl
theorem e_is_whole (k : Nat) (x : PyData) : (sm (k + 1)).call 0 [.d x] = re (.d (.bool (isW x))) := by
  rw [r_is_whole, c_is_whole]
  cases x <;> simp [tyOf, isW] 
theorem e_is_between (k : Nat) (i a b : Int) : (sm (k + 2)).call 1 [.d (.int i), .d (.int a), .d (.int b)] = re (.d (.bool (decide (a ≤ i) && decide (i ≤ b)))) := by
  rw [r_is_between, c_is_between]
  simp [e_is_whole, isW]
theorem e_are_wholes (k : Nat) (xs : List PyData) (n : Int) (hl : xs.length ≤ 1000) : (sm (k + 2)).call 2 [.d (.tuple xs), .d (.int n)] = re (.d (.bool (decide ((xs.length : Int) = n) && xs.all isW))) := by
  rw [r_are_wholes, c_are_wholes]
  have h := cm_tup (Γ := sm (k + 1)) (p := .nm 2) (e := .call 0 [.var 2]) (ρ0 := wipeE [some (W.d (.tuple xs)), some (W.d (.int n)), none] [2]) (fun x => .bool (isW x)) (xs := xs) (by show xs.length ≤ 100000; omega) fun x _ => ⟨_, by rw [asg_nm], by simp [wipeE, e_is_whole]⟩
  simp [tyOf, ev_cmpr, h, b1, blsOf_map]
theorem e_common (k : Nat) (xs : List Int) (hl : xs.length ≤ 1000) : (sm (k + 1)).call 4 [.d (.tuple (xs.map PyData.int))] = re (.d (.int (gcdL xs))) := by
  rw [r_common, c_common]
  obtain ⟨ρ', ⟨l, g, zs, e1, e2, rfl⟩, hr⟩ := frW_rel (Γ := sm k) (k := .seq) (p := .nm 2) (b := [.set 1 (.blt .gcd [.var 1, .var 2])]) (ws := [.d (.tuple (xs.map PyData.int))]) (xs := xs.map PyData.int) (ρ := [some (.d (.tuple (xs.map PyData.int))), some (.d (.int 0)), none])
    (fun ys ρ => ∃ (l : Option W) (g : Nat) (zs : List Int), ys = zs.map PyData.int ∧ zs.foldl (fun g x => Nat.gcd g x.natAbs) g = gcdL xs ∧ ρ = [some (.d (.tuple (xs.map PyData.int))), some (.d (.int g)), l]) (fun _ => rfl) (by simp; show xs.length ≤ 100000; omega) ⟨none, 0, xs, rfl, rfl, rfl⟩ (by
      rintro x ys ρ ⟨l, g, zs, e1, e2, rfl⟩
      cases zs with
      | nil => cases e1
      | cons z zs =>
        cases e1
        refine ⟨_, _, by rw [asg_nm], by simp; rfl, ⟨_, Nat.gcd g z.natAbs, zs, rfl, e2, rfl⟩⟩)
  have e1 : zs = [] := by simpa using e1.symm
  subst e1
  have e2 : g = gcdL xs := e2
  subst e2
  simp [ex_fors, hr]
theorem e_sign_of (k : Nat) (i : Int) : (sm (k + 1)).call 5 [.d (.int i)] = re (.d (.int i.sign)) := by
  rw [r_sign_of, c_sign_of]
  simp
  congr 3
  split
  · rw [Int.sign_eq_one_of_pos (by omega)]
  · split
    · rw [Int.sign_eq_neg_one_of_neg (by omega)]
    · rw [show i = 0 by omega]; rfl
def tq (q d : Int) : Int := if 0 < d then q.sign else 0
def rs (p q d : Int) : Int := if (p.sign = 0 ∨ tq q d = 0) ∨ p.sign = tq q d then (if p.sign = 0 then tq q d else p.sign) else p.sign * (p * p - q * q * d).sign
instance bd_sign {x : Int} : Bd x.sign 1 := ⟨by
  rcases Int.lt_trichotomy x 0 with h | h | h
  · rw [Int.sign_eq_neg_one_of_neg h]; decide
  · rw [h]; decide
  · rw [Int.sign_eq_one_of_pos h]; decide⟩
theorem e_root_sign (k : Nat) (p q d : Int) {u v w : Nat} [Bd p u] [Bd q v] [Bd d w] (h : u + v + w < 100000) : (sm (k + 2)).call 6 [.d (.int p), .d (.int q), .d (.int d)] = re (.d (.int (rs p q d))) := by
  rw [r_root_sign, c_root_sign]
  have e : (if 0 < d then q.sign else 0) = tq q d := rfl
  simp (disch := omega) only [exs_cons, ex_par, evs_cons, evs_nil, ev_call, ev_var, gt_0, gt_s, bnd_re_, kArgs_, kCons_, e_sign_of, ev_ite, ev_cmp, kCmp_, cmW_d, c2_gt_, liftB_some, tst_, kIte_, decide_eq_true_eq, ev_cI, ite_int_, e, kPar_2, List.set_cons_zero, List.set_cons_succ, seqF_nx]
  simp (disch := omega) [e_sign_of, rs]
  congr 3
  by_cases h1 : p = 0
  · simp [h1]
  · simp [h1, or_assoc]
theorem e_product (k : Nat) (f a b c d : Int) {u v1 v2 w1 w2 : Nat} [Bd f u] [Bd a v1] [Bd b v2] [Bd c w1] [Bd d w2] (h : u + v1 + v2 + w1 + w2 < 100000) :
    (sm (k + 1)).call 7 [.d (.int f), .d (V2 a b), .d (V2 c d)] = re (.d (.int (a * c + f * b * d))) := by
  rw [r_product, c_product]
  simp (disch := omega)
theorem e_cross (k : Nat) (a b c d : Int) {v1 v2 w1 w2 : Nat} [Bd a v1] [Bd b v2] [Bd c w1] [Bd d w2] (h : v1 + v2 + w1 + w2 < 100000) :
    (sm (k + 1)).call 8 [.d (V2 a b), .d (V2 c d)] = re (.d (.int (a * d - b * c))) := by
  rw [r_cross, c_cross]
  simp (disch := omega)
theorem e_norm (k : Nat) (f a b : Int) {u v1 v2 : Nat} [Bd f u] [Bd a v1] [Bd b v2] (h : u + v1 + v2 < 10000) :
    (sm (k + 2)).call 9 [.d (.int f), .d (V2 a b)] = re (.d (.int (a * a + f * b * b))) := by
  rw [r_norm, c_norm]
  simp (disch := omega) [e_product]
theorem e_square_at (k : Nat) (f a b l : Int) {u v1 v2 w : Nat} [Bd f u] [Bd a v1] [Bd b v2] [Bd l w] (h : u + v1 + v2 + w < 1000) :
    (sm (k + 3)).call 13 [.d (A4 f a b l)] = re (.d (.int (f * (a * a + f * b * b - l * l)))) := by
  rw [r_square_at, c_square_at]
  simp (disch := omega) [e_norm]
def sg (f a b l v0 v1 lev : Int) : Int := rs (l * (a * v0 + f * b * v1) - lev * (a * a + f * b * b)) (-(a * v1 - b * v0)) (f * (a * a + f * b * b - l * l))
theorem e_sign_at (k : Nat) (f a b l c d lev : Int) {u v1 v2 w w1 w2 w3 : Nat} [Bd f u] [Bd a v1] [Bd b v2] [Bd l w] [Bd c w1] [Bd d w2] [Bd lev w3] (h : u + v1 + v2 + w + w1 + w2 + w3 < 1000) :
    (sm (k + 4)).call 14 [.d (A4 f a b l), .d (V2 c d), .d (.int lev)] = re (.d (.int (sg f a b l c d lev))) := by
  rw [r_sign_at, c_sign_at]
  simp (disch := omega) [e_norm, e_product, e_cross, e_square_at, e_root_sign, sg]
end G20

namespace G20
open PySem PySem.Spec PyProof.Rows L2 DL
@[simp] theorem glob_0 (k : Nat) : (sm k).glob 0 = some (.int 3) := by rw [smk_glob]; rfl
@[simp] theorem glob_1 (k : Nat) : (sm k).glob 1 = some (.tuple [.str "crank", .str "head"]) := by rw [smk_glob]; rfl
@[simp] theorem glob_2 (k : Nat) : (sm k).glob 2 = some (.tuple [.str "both", .str "closed", .str "exhaust", .str "steam"]) := by rw [smk_glob]; rfl
@[simp] theorem glob_3 (k : Nat) : (sm k).glob 3 = some (.int 8) := by rw [smk_glob]; rfl
@[simp] theorem glob_4 (k : Nat) : (sm k).glob 4 = some (.int 24) := by rw [smk_glob]; rfl
@[simp] theorem glob_5 (k : Nat) : (sm k).glob 5 = some (.int 6) := by rw [smk_glob]; rfl
@[simp] theorem glob_6 (k : Nat) : (sm k).glob 6 = some (.tuple [.str "not", .tuple [.str "all"]]) := by rw [smk_glob]; rfl
/-- a good angle -/
structure Ang (f a b l : Int) : Prop where
  f1 : 1 ≤ f
  f3 : f ≤ 3
  g : gcdL [a, b, l] = 1
  n : l * l < a * a + f * b * b
theorem e_is_angle (k : Nat) (f a b l : Int) {u v1 v2 w : Nat} [Bd f u] [Bd a v1] [Bd b v2] [Bd l w] (h : u + v1 + v2 + w < 1000) (hA : Ang f a b l) :
    (sm (k + 3)).call 10 [.d (A4 f a b l)] = re (.d (.bool true)) := by
  rw [r_is_angle, c_is_angle]
  have h1 := e_are_wholes k [.int f, .int a, .int b, .int l] 4 (by simp)
  have h2 := e_common (k + 1) [a, b, l] (by simp)
  simp only [List.map_cons, List.map_nil] at h2
  simp (disch := omega) [h1, e_is_between, hA.f1, hA.f3, h2, hA.g, e_norm, hA.n]
theorem e_check_angle (k : Nat) (f a b l : Int) {u v1 v2 w : Nat} [Bd f u] [Bd a v1] [Bd b v2] [Bd l w] (h : u + v1 + v2 + w < 1000) (hA : Ang f a b l) :
    (sm (k + 4)).call 11 [.d (A4 f a b l)] = re (.d .none) := by
  rw [r_check_angle, c_check_angle]
  simp (disch := omega) [e_is_angle, hA]
theorem e_check_form_of (k : Nat) (f a b l : Int) : (sm (k + 1)).call 12 [.d (A4 f a b l), .d (.int f)] = re (.d .none) := by
  rw [r_check_form_of, c_check_form_of]
  simp
abbrev Vd (f a b sh xh sc xc port : Int) : PyData := .tuple [.int f, V2 a b, .tuple [.int sh, .int xh, .int sc, .int xc], .int port]
@[simp] theorem o2_addT_ (xs ys : List PyData) (h : xs.length + ys.length ≤ 100000) : o2 .add (.tuple xs) (.tuple ys) = some (.tuple (xs ++ ys)) := if_pos h
@[simp] theorem o2_addL_ (xs ys : List PyData) (h : xs.length + ys.length ≤ 100000) : o2 .add (.list xs) (.list ys) = some (.list (xs ++ ys)) := if_pos h
theorem e_numbers_of (k : Nat) (f a b sh xh sc xc port : Int) : (sm (k + 1)).call 15 [.d (Vd f a b sh xh sc xc port)] = re (.d (.tuple [.int a, .int b, .int sh, .int xh, .int sc, .int xc, .int port])) := by
  rw [r_numbers_of, c_numbers_of]
  simp
theorem e_is_port (k : Nat) (i : Int) : (sm (k + 2)).call 16 [.d (.int i)] = re (.d (.bool (decide (0 < i)))) := by
  rw [r_is_port, c_is_port]
  simp [e_is_whole]
/-- a good valve -/
structure Val (f a b sh xh sc xc port : Int) : Prop where
  f1 : 1 ≤ f
  f3 : f ≤ 3
  p : 0 < port
  g : gcdL [a, b, sh, xh, sc, xc, port] = 1
variable {f a b sh xh sc xc port : Int}
theorem e_is_valve (k : Nat) (hV : Val f a b sh xh sc xc port) : (sm (k + 3)).call 17 [.d (Vd f a b sh xh sc xc port)] = re (.d (.bool true)) := by
  rw [r_is_valve, c_is_valve]
  have h1 := e_are_wholes k [.int a, .int b] 2 (by simp)
  have h2 := e_are_wholes k [.int sh, .int xh, .int sc, .int xc] 4 (by simp)
  have h3 := e_common (k + 1) [a, b, sh, xh, sc, xc, port] (by simp)
  simp only [List.map_cons, List.map_nil] at h3
  simp [h1, h2, e_is_between, hV.f1, hV.f3, e_is_port, hV.p, e_numbers_of, h3, hV.g, tyOf]
theorem e_check_valve (k : Nat) (hV : Val f a b sh xh sc xc port) : (sm (k + 4)).call 18 [.d (Vd f a b sh xh sc xc port)] = re (.d .none) := by
  rw [r_check_valve, c_check_valve]
  simp [e_is_valve, hV]
def IsEnd (e : Str) : Prop := e = "head" ∨ e = "crank"
def IsWord (e : Str) : Prop := e = "steam" ∨ e = "exhaust" ∨ e = "both" ∨ e = "closed"
theorem e_check_end (k : Nat) {e : Str} (h : IsEnd e) : (sm (k + 1)).call 19 [.d (.str e)] = re (.d .none) := by
  rw [r_check_end, c_check_end]
  rcases h with rfl | rfl <;> simp [tyOf, c2, c2.flatD, PyData.eqv]
theorem e_check_word (k : Nat) {e : Str} (h : IsWord e) : (sm (k + 1)).call 20 [.d (.str e), .d (.tuple [.str "both", .str "closed", .str "exhaust", .str "steam"])] = re (.d .none) := by
  rw [r_check_word, c_check_word]
  rcases h with rfl | rfl | rfl | rfl <;> simp [tyOf, c2, c2.flatD, PyData.eqv]
theorem e_against (k : Nat) (a b : Int) : (sm (k + 1)).call 21 [.d (V2 a b)] = re (.d (V2 (-a) (-b))) := by
  rw [r_against, c_against]
  simp
theorem e_sides_head (k : Nat) : (sm (k + 2)).call 22 [.d (Vd f a b sh xh sc xc port), .d (.str "head")] = re (.d (.tuple [.tuple [V2 a b, .int sh], .tuple [V2 (-a) (-b), .int xh]])) := by
  rw [r_sides_at, c_sides_at]
  simp [e_against]
theorem e_sides_crank (k : Nat) : (sm (k + 2)).call 22 [.d (Vd f a b sh xh sc xc port), .d (.str "crank")] = re (.d (.tuple [.tuple [V2 (-a) (-b), .int sc], .tuple [V2 a b, .int xc]])) := by
  rw [r_sides_at, c_sides_at]
  simp [e_against]
def wordOf (s x : Bool) : Str := if s then (if x then "both" else "steam") else if x then "exhaust" else "closed"
theorem e_word_of (k : Nat) (s x : Bool) : (sm (k + 1)).call 23 [.d (.bool s), .d (.bool x)] = re (.d (.str (wordOf s x))) := by
  rw [r_word_of, c_word_of]
  cases s <;> cases x <;> simp [wordOf]
/-- the two sides of an end: vector and level of the steam side, of the exhaust side -/
structure Sd where
  a : Int
  b : Int
  l : Int
  c : Int
  d : Int
  m : Int
abbrev sdD (s : Sd) : PyData := .tuple [.tuple [V2 s.a s.b, .int s.l], .tuple [V2 s.c s.d, .int s.m]]
def sdOf (e : Str) (a b sh xh sc xc : Int) : Sd := if e = "head" then ⟨a, b, sh, -a, -b, xh⟩ else ⟨-a, -b, sc, a, b, xc⟩
theorem e_sides_at (k : Nat) {e : Str} (h : IsEnd e) : (sm (k + 2)).call 22 [.d (Vd f a b sh xh sc xc port), .d (.str e)] = re (.d (sdD (sdOf e a b sh xh sc xc))) := by
  rcases h with rfl | rfl
  · rw [e_sides_head]; rfl
  · rw [e_sides_crank]; simp [sdOf]
end G20

namespace G20
open PySem PySem.Spec PyProof.Rows L2 DL
variable {f a b sh xh sc xc port : Int} {af aa ab al : Int} {e : Str} {t : Str}
/-- the sides' numbers are small -/
class SdB (s : Sd) (w : outParam Nat) : Prop where
  a : s.a.natAbs < 2 ^ w
  b : s.b.natAbs < 2 ^ w
  l : s.l.natAbs < 2 ^ w
  c : s.c.natAbs < 2 ^ w
  d : s.d.natAbs < 2 ^ w
  m : s.m.natAbs < 2 ^ w
instance sdb_a {s : Sd} {w : Nat} [h : SdB s w] : Bd s.a w := ⟨h.a⟩
instance sdb_b {s : Sd} {w : Nat} [h : SdB s w] : Bd s.b w := ⟨h.b⟩
instance sdb_l {s : Sd} {w : Nat} [h : SdB s w] : Bd s.l w := ⟨h.l⟩
instance sdb_c {s : Sd} {w : Nat} [h : SdB s w] : Bd s.c w := ⟨h.c⟩
instance sdb_d {s : Sd} {w : Nat} [h : SdB s w] : Bd s.d w := ⟨h.d⟩
instance sdb_m {s : Sd} {w : Nat} [h : SdB s w] : Bd s.m w := ⟨h.m⟩
/-- the sign of a side at an angle is above -/
def up (af aa ab al v0 v1 lev : Int) : Bool := decide (0 < sg af aa ab al v0 v1 lev)
def st1 (af aa ab al : Int) (s : Sd) : Bool := up af aa ab al s.a s.b s.l
def st2 (af aa ab al : Int) (s : Sd) : Bool := up af aa ab al s.c s.d s.m
/-- an angle's numbers are small -/
class AnB (f a b l : Int) : Prop where
  f : Bd f 4
  a : Bd a 200
  b : Bd b 200
  l : Bd l 200
variable {w : Nat}
theorem e_state_of (k : Nat) [A : AnB af aa ab al] [S : SdB (sdOf e a b sh xh sc xc) w] (hw : w < 100) (h : IsEnd e) :
    (sm (k + 5)).call 24 [.d (Vd f a b sh xh sc xc port), .d (.str e), .d (A4 af aa ab al)] = re (.d (.str (wordOf (st1 af aa ab al (sdOf e a b sh xh sc xc)) (st2 af aa ab al (sdOf e a b sh xh sc xc))))) := by
  have := A.f; have := A.a; have := A.b; have := A.l
  rw [r_state_of, c_state_of]
  simp (disch := omega) [e_sides_at, h, e_sign_at, e_word_of, st1, st2, up]
abbrev sideT (x y l : Int) : PyData := .tuple [.str "side", V2 x y, .int l]
abbrev notT (t : PyData) : PyData := .tuple [.str "not", t]
abbrev andT (t u : PyData) : PyData := .tuple [.str "and", .tuple [t, u]]
def first (s : Sd) (t : Str) : PyData := if t = "steam" ∨ t = "both" then sideT s.a s.b s.l else notT (sideT s.a s.b s.l)
def second (s : Sd) (t : Str) : PyData := if t = "exhaust" ∨ t = "both" then sideT s.c s.d s.m else notT (sideT s.c s.d s.m)
theorem e_region_of_state (k : Nat) (h : IsEnd e) (ht : IsWord t) :
    (sm (k + 3)).call 25 [.d (Vd f a b sh xh sc xc port), .d (.str e), .d (.str t)] = re (.d (.tuple [.int f, andT (first (sdOf e a b sh xh sc xc) t) (second (sdOf e a b sh xh sc xc) t)])) := by
  rw [r_region_of_state, c_region_of_state]
  generalize hs : sdOf e a b sh xh sc xc = s
  have h1 := cm_tup (Γ := sm (k + 2)) (p := .tp [.nm 7, .nm 8]) (e := .tup [.cS "side", .var 7, .var 8]) (ρ0 := [some (W.d (Vd f a b sh xh sc xc port)), some (W.d (.str e)), some (W.d (.str t)), none, none, none, none, none, none])
    (fun x => match x with
      | .tuple [v, l] => .tuple [.str "side", v, l]
      | _ => .none) (xs := [.tuple [V2 s.a s.b, .int s.l], .tuple [V2 s.c s.d, .int s.m]]) (by show 2 ≤ 100000; decide) (by
      intro x hx
      simp only [List.mem_cons, List.not_mem_nil, or_false] at hx
      rcases hx with rfl | rfl
      · exact ⟨_, by simp; rfl, by simp⟩
      · exact ⟨_, by simp; rfl, by simp⟩)
  rcases ht with rfl | rfl | rfl | rfl <;> simp [e_sides_at, h, ev_cmpr, h1, hs, wipeE, c2, c2.flatD, PyData.eqv, first, second]
end G20

namespace G20
open PySem PySem.Spec PyProof.Rows L2 DL
variable {f a b sh xh sc xc port : Int} {af aa ab al : Int} {e : Str} {t : Str} {w : Nat}
theorem e_state_at (k : Nat) [A : AnB f aa ab al] [S : SdB (sdOf e a b sh xh sc xc) w] (hw : w < 100) (h : IsEnd e) (hV : Val f a b sh xh sc xc port) (hA : Ang f aa ab al) :
    (sm (k + 6)).call 26 [.d (Vd f a b sh xh sc xc port), .d (.str e), .d (A4 f aa ab al)] = re (.d (.str (wordOf (st1 f aa ab al (sdOf e a b sh xh sc xc)) (st2 f aa ab al (sdOf e a b sh xh sc xc))))) := by
  have := A.f; have := A.a; have := A.b; have := A.l
  rw [r_state_at, c_state_at]
  simp (disch := omega) [e_check_valve, hV, e_check_end, h, e_check_angle, hA, e_check_form_of, e_state_of]
theorem e_state_region (k : Nat) (h : IsEnd e) (ht : IsWord t) (hV : Val f a b sh xh sc xc port) :
    (sm (k + 5)).call 27 [.d (Vd f a b sh xh sc xc port), .d (.str e), .d (.str t)] = re (.d (.tuple [.int f, andT (first (sdOf e a b sh xh sc xc) t) (second (sdOf e a b sh xh sc xc) t)])) := by
  rw [r_state_region, c_state_region]
  simp [e_check_valve, hV, e_check_end, h, e_check_word, ht, e_region_of_state]
theorem e_is_side (k : Nat) (x y l : Int) : (sm (k + 3)).call 28 [.d (sideT x y l)] = re (.d (.bool true)) := by
  rw [r_is_side, c_is_side]
  have h1 := e_are_wholes k [.int x, .int y] 2 (by simp)
  simp [h1, e_is_whole]
theorem e_are_trees (k : Nat) (t u : PyData) : (sm (k + 1)).call 29 [.d (.tuple [t, u])] = re (.d (.bool true)) := by
  rw [r_are_trees, c_are_trees]
  simp [tyOf]
theorem e_sides_side (k : Nat) (x y l d : Int) (hd : d ≠ 0) : (sm (k + 4)).call 30 [.d (sideT x y l), .d (.int d)] = re (.d (.int 1)) := by
  rw [r_sides_in, c_sides_in]
  simp [tyOf, hd, c2, eqOk, SeqAt.shaped, PyData.canLay0, PyData.canLayAll0, PyData.depth, PyData.depthAll, PyData.eqv, PyData.eqvAll, e_is_side]
end G20

namespace G20
open PySem PySem.Spec PyProof.Rows L2 DL
variable {f a b sh xh sc xc port : Int} {af aa ab al : Int} {e : Str} {t : Str} {w : Nat}
theorem e_sides_not (k : Nat) (x y l d : Int) (hd : d ≠ 0) (hd1 : d - 1 ≠ 0) : (sm (k + 5)).call 30 [.d (notT (sideT x y l)), .d (.int d)] = re (.d (.int 1)) := by
  rw [r_sides_in, c_sides_in]
  simp [tyOf, hd, c2, eqOk, SeqAt.shaped, PyData.canLay0, PyData.canLayAll0, PyData.depth, PyData.depthAll, PyData.eqv, PyData.eqvAll, e_sides_side, hd1]
/-- a side or not a side -/
inductive Lf : PyData → Prop
  | s (x y l : Int) : Lf (sideT x y l)
  | n (x y l : Int) : Lf (notT (sideT x y l))
theorem lf_first (s : Sd) (t : Str) : Lf (first s t) := by
  unfold first
  split
  · exact .s _ _ _
  · exact .n _ _ _
theorem lf_second (s : Sd) (t : Str) : Lf (second s t) := by
  unfold second
  split
  · exact .s _ _ _
  · exact .n _ _ _
theorem e_sides_lf (k : Nat) {t : PyData} (h : Lf t) (d : Int) (hd : d ≠ 0) (hd1 : d - 1 ≠ 0) : (sm (k + 5)).call 30 [.d t, .d (.int d)] = re (.d (.int 1)) := by
  cases h with
  | s x y l => exact e_sides_side (k + 1) x y l d hd
  | n x y l => exact e_sides_not k x y l d hd hd1
theorem lf_lay {t : PyData} (h : Lf t) : t.canLay0 = true ∧ t.depth ≤ 20 := by
  cases h <;> simp [PyData.canLay0, PyData.canLayAll0, PyData.depth, PyData.depthAll]
theorem e_sides_and (k : Nat) {t u : PyData} (ht : Lf t) (hu : Lf u) : (sm (k + 6)).call 30 [.d (andT t u), .d (.int 6)] = re (.d (.int 2)) := by
  rw [r_sides_in, c_sides_in]
  obtain ⟨h1, h2⟩ := lf_lay ht
  obtain ⟨h3, h4⟩ := lf_lay hu
  have h5 : max t.depth u.depth ≤ 62 := by omega
  have hc := cm2 (Γ := sm (k + 5)) (p := .nm 2) (e := .call 30 [.var 2, .bin .sub (.var 1) (.cI 1)]) (ρ0 := [some (W.d (andT t u)), some (W.d (.int 6)), none]) (x := t) (y := u) (d1 := .int 1) (d2 := .int 1) (by rw [asg_nm]) (by simp [e_sides_lf, ht]) (by rw [asg_nm]) (by simp [e_sides_lf, hu])
  simp [tyOf, c2, eqOk, SeqAt.shaped, PyData.canLay0, PyData.canLayAll0, PyData.depth, PyData.depthAll, PyData.eqv, PyData.eqvAll, h1, h3, c2.flatD, ev_cmpr, wipeE, hc, e_are_trees, b1, intsOf, h5]
theorem e_sides_nowhere (k : Nat) : (sm (k + 2)).call 30 [.d (notT (.tuple [.str "all"])), .d (.int 6)] = re (.d (.int 0)) := by
  rw [r_sides_in, c_sides_in]
  have h : (sm (k + 1)).call 30 [.d (.tuple [.str "all"]), .d (.int 5)] = re (.d (.int 0)) := by
    rw [r_sides_in, c_sides_in]
    simp [tyOf, c2, eqOk, SeqAt.shaped, PyData.canLay0, PyData.canLayAll0, PyData.depth, PyData.depthAll, PyData.eqv, PyData.eqvAll]
  simp [tyOf, c2, eqOk, SeqAt.shaped, PyData.canLay0, PyData.canLayAll0, PyData.depth, PyData.depthAll, PyData.eqv, PyData.eqvAll, h]
/-- a tree that the law meets -/
inductive Tr : PyData → Prop
  | a {t u : PyData} : Lf t → Lf u → Tr (andT t u)
  | no : Tr (notT (.tuple [.str "all"]))
theorem e_is_region (k : Nat) {t : PyData} (h : Tr t) (h1 : 1 ≤ f) (h3 : f ≤ 3) : (sm (k + 7)).call 31 [.d (.tuple [.int f, t])] = re (.d (.bool true)) := by
  rw [r_is_region, c_is_region]
  cases h with
  | a ht hu => simp [tyOf, e_is_between, h1, h3, e_sides_and, ht, hu]
  | no => simp [tyOf, e_is_between, h1, h3, e_sides_nowhere]
theorem e_check_region (k : Nat) {t : PyData} (h : Tr t) (h1 : 1 ≤ f) (h3 : f ≤ 3) : (sm (k + 8)).call 32 [.d (.tuple [.int f, t])] = re (.d .none) := by
  rw [r_check_region, c_check_region]
  simp [e_is_region, h, h1, h3]
/-- the truth of a tree -/
inductive Tv (af aa ab al : Int) : PyData → Bool → Prop
  | s (x y l : Int) : Tv af aa ab al (sideT x y l) (up af aa ab al x y l)
  | n (x y l : Int) : Tv af aa ab al (notT (sideT x y l)) (!up af aa ab al x y l)
theorem e_lies_side (k : Nat) (x y l : Int) {v1 v2 v3 : Nat} [A : AnB af aa ab al] [Bd x v1] [Bd y v2] [Bd l v3] (hw : v1 + v2 + v3 < 350) : (sm (k + 5)).call 33 [.d (sideT x y l), .d (A4 af aa ab al)] = re (.d (.bool (up af aa ab al x y l))) := by
  have := A.f; have := A.a; have := A.b; have := A.l
  rw [r_lies_in, c_lies_in]
  simp (disch := omega) [e_sign_at, up]
theorem e_lies_not (k : Nat) (x y l : Int) {v1 v2 v3 : Nat} [A : AnB af aa ab al] [Bd x v1] [Bd y v2] [Bd l v3] (hw : v1 + v2 + v3 < 350) : (sm (k + 6)).call 33 [.d (notT (sideT x y l)), .d (A4 af aa ab al)] = re (.d (.bool (!up af aa ab al x y l))) := by
  rw [r_lies_in, c_lies_in]
  simp (disch := omega) [e_lies_side]
theorem e_lies_and (k : Nat) {t u : PyData} {p q : Bool} (h1 : (sm (k + 6)).call 33 [.d t, .d (A4 af aa ab al)] = re (.d (.bool p))) (h2 : (sm (k + 6)).call 33 [.d u, .d (A4 af aa ab al)] = re (.d (.bool q))) :
    (sm (k + 7)).call 33 [.d (andT t u), .d (A4 af aa ab al)] = re (.d (.bool (p && q))) := by
  rw [r_lies_in, c_lies_in]
  have hc := cm2 (Γ := sm (k + 6)) (p := .nm 3) (e := .call 33 [.var 3, .var 1]) (ρ0 := [some (W.d (andT t u)), some (W.d (A4 af aa ab al)), none, none]) (x := t) (y := u) (d1 := .bool p) (d2 := .bool q) (by rw [asg_nm]) (by simp [h1]) (by rw [asg_nm]) (by simp [h2])
  simp [ev_cmpr, wipeE, hc, b1, blsOf]
theorem e_lies_nowhere (k : Nat) (x : PyData) : (sm (k + 2)).call 33 [.d (notT (.tuple [.str "all"])), .d x] = re (.d (.bool false)) := by
  rw [r_lies_in, c_lies_in]
  have h : (sm (k + 1)).call 33 [.d (.tuple [.str "all"]), .d x] = re (.d (.bool true)) := by
    rw [r_lies_in, c_lies_in]
    simp
  simp [h]
theorem e_holds (k : Nat) {t : PyData} {p : Bool} (h : Tr t) [A : AnB f aa ab al] (hA : Ang f aa ab al) (hp : (sm (k + 9)).call 33 [.d t, .d (A4 f aa ab al)] = re (.d (.bool p))) :
    (sm (k + 10)).call 34 [.d (.tuple [.int f, t]), .d (A4 f aa ab al)] = re (.d (.bool p)) := by
  have := A.f; have := A.a; have := A.b; have := A.l
  have := hA.f1; have := hA.f3
  rw [r_holds, c_holds]
  simp (disch := omega) [e_check_region, h, hA.f1, hA.f3, e_check_angle, hA, e_check_form_of, hp]
end G20

namespace G20
open PySem PySem.Spec PyProof.Rows L2 DL
variable {f a b sh xh sc xc port : Int} {af aa ab al : Int} {e : Str} {t : Str} {w : Nat} {n m : Int} {u v : Nat}
structure Slk (n m : Int) : Prop where
  n0 : 0 ≤ n
  m0 : 0 < m
  g : Nat.gcd n.natAbs m.natAbs = 1
theorem e_times (k : Nat) (x y m : Int) {u v1 v2 : Nat} [Bd x v1] [Bd y v2] [Bd m u] (h : v1 + v2 + u < 1000) : (sm (k + 1)).call 35 [.d (V2 x y), .d (.int m)] = re (.d (V2 (x * m) (y * m))) := by
  rw [r_times, c_times]
  simp (disch := omega)
theorem e_is_ratio (k : Nat) (h : Slk n m) : (sm (k + 3)).call 3 [.d (V2 n m)] = re (.d (.bool true)) := by
  rw [r_is_ratio, c_is_ratio]
  have h1 := e_are_wholes k [.int n, .int m] 2 (by simp)
  have h2 := h.g
  simp [h1, h.m0, h2]
theorem e_check_slack (k : Nat) (h : Slk n m) : (sm (k + 4)).call 36 [.d (V2 n m)] = re (.d .none) := by
  rw [r_check_slack, c_check_slack]
  have h1 : ¬ n < 0 := by have := h.n0; omega
  simp [e_is_ratio, h, h1]
theorem e_side_less (k : Nat) (x y l n m g : Int) {v1 v2 v3 u1 u2 u3 : Nat} [Bd x v1] [Bd y v2] [Bd l v3] [Bd n u1] [Bd m u2] [Bd g u3] (h : v1 + v2 + v3 + u1 + u2 + u3 < 900) :
    (sm (k + 2)).call 37 [.d (.tuple [V2 x y, .int l]), .d (V2 n m), .d (.int g)] = re (.d (sideT (x * m) (y * m) (l * m + g * n))) := by
  rw [r_side_less, c_side_less]
  simp (disch := omega) [e_times]
theorem e_not_in (k : Nat) (t : PyData) : (sm (k + 1)).call 38 [.d t] = re (.d (notT t)) := by
  rw [r_not_in, c_not_in]
  simp
def lessT (x y l n m g : Int) : PyData := sideT (x * m) (y * m) (l * m + g * n)
def sF (s : Sd) (t : Str) (n m g : Int) : PyData := if t = "steam" ∨ t = "both" then lessT s.a s.b s.l n m g else notT (lessT s.a s.b s.l n m (-g))
def sX (s : Sd) (t : Str) (n m g : Int) : PyData := if t = "exhaust" ∨ t = "both" then lessT s.c s.d s.m n m g else notT (lessT s.c s.d s.m n m (-g))
theorem e_sure_tree (k : Nat) [S : SdB (sdOf e a b sh xh sc xc) w] [Bd n u] [Bd m v] (hw : w + u + v < 250) (h : IsEnd e) (ht : IsWord t) :
    (sm (k + 3)).call 39 [.d (Vd f a b sh xh sc xc port), .d (.str e), .d (.str t), .d (V2 n m)] = re (.d (andT (sF (sdOf e a b sh xh sc xc) t n m 1) (sX (sdOf e a b sh xh sc xc) t n m 1))) := by
  rw [r_sure_tree, c_sure_tree]
  generalize hs : sdOf e a b sh xh sc xc = s at S ⊢
  rcases ht with rfl | rfl | rfl | rfl <;> simp (disch := omega) [e_sides_at, h, hs, c2, c2.flatD, PyData.eqv, e_side_less, e_not_in, sF, sX, lessT]
def blows (s : Sd) : Prop := s.l + s.m < 0
instance (s : Sd) : Decidable (blows s) := by unfold blows; infer_instance
def pT (s : Sd) (t : Str) (n m : Int) : PyData := if (t = "both" ∧ ¬ blows s) ∨ (t = "closed" ∧ blows s) then notT (.tuple [.str "all"]) else andT (sF s t n m (-1)) (sX s t n m (-1))
theorem e_possible_tree (k : Nat) [S : SdB (sdOf e a b sh xh sc xc) w] [Bd n u] [Bd m v] (hw : w + u + v < 250) (h : IsEnd e) (ht : IsWord t) :
    (sm (k + 3)).call 40 [.d (Vd f a b sh xh sc xc port), .d (.str e), .d (.str t), .d (V2 n m)] = re (.d (pT (sdOf e a b sh xh sc xc) t n m)) := by
  rw [r_possible_tree, c_possible_tree]
  generalize hs : sdOf e a b sh xh sc xc = s at S ⊢
  by_cases hb : s.l + s.m < 0
  · rcases ht with rfl | rfl | rfl | rfl <;> simp (disch := omega) [e_sides_at, h, hs, c2, c2.flatD, PyData.eqv, e_side_less, e_not_in, sF, sX, lessT, pT, blows, hb]
  · rcases ht with rfl | rfl | rfl | rfl <;> simp (disch := omega) [e_sides_at, h, hs, c2, c2.flatD, PyData.eqv, e_side_less, e_not_in, sF, sX, lessT, pT, blows, hb]
theorem e_sure_region (k : Nat) [S : SdB (sdOf e a b sh xh sc xc) w] [Bd n u] [Bd m v] (hw : w + u + v < 250) (h : IsEnd e) (ht : IsWord t) (hV : Val f a b sh xh sc xc port) (hS : Slk n m) :
    (sm (k + 5)).call 41 [.d (Vd f a b sh xh sc xc port), .d (.str e), .d (.str t), .d (V2 n m)] = re (.d (.tuple [.int f, andT (sF (sdOf e a b sh xh sc xc) t n m 1) (sX (sdOf e a b sh xh sc xc) t n m 1)])) := by
  rw [r_sure_region, c_sure_region]
  simp (disch := omega) [e_check_valve, hV, e_check_end, h, e_check_word, ht, e_check_slack, hS, e_sure_tree]
theorem e_possible_region (k : Nat) [S : SdB (sdOf e a b sh xh sc xc) w] [Bd n u] [Bd m v] (hw : w + u + v < 250) (h : IsEnd e) (ht : IsWord t) (hV : Val f a b sh xh sc xc port) (hS : Slk n m) :
    (sm (k + 5)).call 42 [.d (Vd f a b sh xh sc xc port), .d (.str e), .d (.str t), .d (V2 n m)] = re (.d (.tuple [.int f, pT (sdOf e a b sh xh sc xc) t n m])) := by
  rw [r_possible_region, c_possible_region]
  simp (disch := omega) [e_check_valve, hV, e_check_end, h, e_check_word, ht, e_check_slack, hS, e_possible_tree]
theorem tr_sure (s : Sd) (t : Str) (n m g : Int) : Tr (andT (sF s t n m g) (sX s t n m g)) := by
  refine .a ?_ ?_
  · unfold sF lessT; split
    · exact .s _ _ _
    · exact .n _ _ _
  · unfold sX lessT; split
    · exact .s _ _ _
    · exact .n _ _ _
theorem tr_pT (s : Sd) (t : Str) (n m : Int) : Tr (pT s t n m) := by
  unfold pT
  split
  · exact .no
  · exact tr_sure _ _ _ _ _
end G20

namespace G20
open PySem PySem.Spec PyProof.Rows L2 DL
theorem sq_lt {x y : Int} (h0 : 0 ≤ x) (h : x < y) : x * x < y * y := Int.mul_self_lt_mul_self h0 h
theorem sq_lt' {x y : Int} (h0 : y ≤ 0) (h : x < y) : y * y < x * x := by
  have := sq_lt (x := -y) (y := -x) (by omega) (by omega)
  rwa [Int.neg_mul_neg, Int.neg_mul_neg] at this
theorem sign_pos {x : Int} : 0 < x.sign ↔ 0 < x := Int.sign_pos_iff
theorem rs_pos {p q d : Int} (hd : 0 < d) : 0 < rs p q d ↔ (0 ≤ p ∧ 0 ≤ q ∧ (0 < p ∨ 0 < q)) ∨ (0 < p ∧ q < 0 ∧ q * q * d < p * p) ∨ (p < 0 ∧ 0 < q ∧ p * p < q * q * d) := by
  unfold rs tq
  rw [if_pos hd]
  rcases Int.lt_trichotomy p 0 with hp | hp | hp
  · rw [Int.sign_eq_neg_one_of_neg hp]
    rcases Int.lt_trichotomy q 0 with hq | hq | hq
    · rw [Int.sign_eq_neg_one_of_neg hq]
      simp
      omega
    · subst hq
      simp
      omega
    · rw [Int.sign_eq_one_of_pos hq]
      simp
      have := Int.sign_neg_iff (x := p * p - q * q * d)
      constructor
      · intro h
        right; right
        exact ⟨hp, hq, by omega⟩
      · rintro (h | h | h)
        · omega
        · omega
        · omega
  · subst hp
    simp
    omega
  · rw [Int.sign_eq_one_of_pos hp]
    rcases Int.lt_trichotomy q 0 with hq | hq | hq
    · rw [Int.sign_eq_neg_one_of_neg hq]
      simp
      constructor
      · intro h
        right; left
        exact ⟨hp, hq, by omega⟩
      · rintro (h | h | h)
        · omega
        · omega
        · omega
    · subst hq
      simp
      omega
    · rw [Int.sign_eq_one_of_pos hq]
      simp
      omega
theorem rs_neg (p q d : Int) : rs (-p) (-q) d = - rs p q d := by
  unfold rs tq
  rw [Int.sign_neg, Int.sign_neg]
  have e : -p * -p - -q * -q * d = p * p - q * q * d := by rw [Int.neg_mul_neg, Int.neg_mul_neg]
  rw [e]
  by_cases hd : 0 < d
  · rw [if_pos hd, if_pos hd]
    by_cases h : (p.sign = 0 ∨ q.sign = 0) ∨ p.sign = q.sign
    · have h' : (-p.sign = 0 ∨ -q.sign = 0) ∨ -p.sign = -q.sign := by omega
      rw [if_pos h, if_pos h']
      by_cases h0 : p.sign = 0
      · rw [if_pos h0, if_pos (by omega)]
      · rw [if_neg h0, if_neg (by omega)]
    · have h' : ¬ ((-p.sign = 0 ∨ -q.sign = 0) ∨ -p.sign = -q.sign) := by omega
      rw [if_neg h, if_neg h', Int.neg_mul]
  · rw [if_neg hd, if_neg hd]
    simp
    by_cases h0 : p = 0
    · simp [h0]
    · simp [h0]
theorem rs_mono {p p' q d : Int} (hd : 0 < d) (h : p ≤ p') (k : 0 < rs p q d) : 0 < rs p' q d := by
  rw [rs_pos hd] at k ⊢
  rcases k with ⟨h1, h2, h3⟩ | ⟨h1, h2, h3⟩ | ⟨h1, h2, h3⟩
  · left; omega
  · right; left
    refine ⟨by omega, h2, ?_⟩
    by_cases e : p = p'
    · subst e; exact h3
    · have := sq_lt (x := p) (y := p') (by omega) (by omega)
      omega
  · by_cases h0 : 0 ≤ p'
    · left; omega
    · right; right
      refine ⟨by omega, h2, ?_⟩
      by_cases e : p = p'
      · subst e; exact h3
      · have := sq_lt' (x := p) (y := p') (by omega) (by omega)
        omega
theorem rs_strict {p p' q d : Int} (hd : 0 < d) (h : p < p') (k : ¬ 0 < rs (-p) (-q) d) : 0 < rs p' q d := by
  rw [rs_pos hd] at k ⊢
  rw [Int.neg_mul_neg, Int.neg_mul_neg] at k
  rcases Int.lt_trichotomy q 0 with hq | hq | hq
  · have hp : 0 < p := by
      by_cases hp : 0 < p
      · exact hp
      · exact absurd (Or.inl ⟨by omega, by omega, by omega⟩) k
    have h3 : ¬ (p * p < q * q * d) := fun z => k (.inr (.inr ⟨by omega, by omega, z⟩))
    have := sq_lt (x := p) (y := p') (by omega) h
    right; left
    exact ⟨by omega, hq, by omega⟩
  · subst hq
    have hp : 0 ≤ p := by
      by_cases hp : 0 ≤ p
      · exact hp
      · exact absurd (Or.inl ⟨by omega, by omega, by omega⟩) k
    left; omega
  · by_cases h0 : 0 ≤ p'
    · left; omega
    · have h3 : ¬ (q * q * d < p * p) := fun z => k (.inr (.inl ⟨by omega, by omega, z⟩))
      have := sq_lt' (x := p) (y := p') (by omega) h
      right; right
      exact ⟨by omega, hq, by omega⟩
/-! ### sides of an angle -/
section
variable {f a b l v0 v1 : Int}
theorem ang_n (h : Ang f a b l) : 0 < a * a + f * b * b := by
  have h1 := h.n
  have h2 : 0 ≤ l * l := by
    rcases Int.le_total 0 l with q | q
    · exact Int.mul_nonneg q q
    · exact Int.mul_nonneg_of_nonpos_of_nonpos q q
  omega
theorem ang_d (h : Ang f a b l) : 0 < f * (a * a + f * b * b - l * l) := Int.mul_pos (by have := h.f1; omega) (by have := h.n; omega)
theorem sg_neg (f a b l v0 v1 lev : Int) : sg f a b l (-v0) (-v1) lev = - sg f a b l v0 v1 (-lev) := by
  unfold sg
  rw [← rs_neg]
  congr 1 <;> grind
theorem sg_mono (h : Ang f a b l) {x y : Int} (hxy : x ≤ y) (k : 0 < sg f a b l v0 v1 y) : 0 < sg f a b l v0 v1 x := by
  unfold sg at *
  refine rs_mono (ang_d h) ?_ k
  have := Int.mul_le_mul_of_nonneg_right hxy (Int.le_of_lt (ang_n h))
  omega
theorem sg_strict (h : Ang f a b l) {x y : Int} (hxy : x < y) (k : ¬ sg f a b l v0 v1 y < 0) : 0 < sg f a b l v0 v1 x := by
  unfold sg at *
  have hm := Int.mul_lt_mul_of_pos_right hxy (ang_n h)
  refine rs_strict (p := l * (a * v0 + f * b * v1) - y * (a * a + f * b * b)) (ang_d h) (by omega) fun z => k ?_
  rw [rs_neg] at z
  omega
end
/-- the sides face each other -/
def Face (s : Sd) : Prop := s.c = -s.a ∧ s.d = -s.b
theorem face_of (e : Str) (a b sh xh sc xc : Int) : Face (sdOf e a b sh xh sc xc) := by
  unfold sdOf Face
  split
  · exact ⟨rfl, rfl⟩
  · constructor <;> simp
def uS (f a b l : Int) (s : Sd) (n m g : Int) : Bool := up f a b l (s.a * m) (s.b * m) (s.l * m + g * n)
def uX (f a b l : Int) (s : Sd) (n m g : Int) : Bool := up f a b l (s.c * m) (s.d * m) (s.m * m + g * n)
section
variable {f a b l n m : Int} {s : Sd}
theorem uS_mono (h : Ang f a b l) (hn : 0 ≤ n) (k : uS f a b l s n m 1 = true) : uS f a b l s n m (-1) = true := by
  unfold uS up at *
  rw [decide_eq_true_eq] at *
  exact sg_mono h (by omega) k
theorem uX_mono (h : Ang f a b l) (hn : 0 ≤ n) (k : uX f a b l s n m 1 = true) : uX f a b l s n m (-1) = true := by
  unfold uX up at *
  rw [decide_eq_true_eq] at *
  exact sg_mono h (by omega) k
theorem uX_eq (hF : Face s) (g : Int) : uX f a b l s n m g = decide (sg f a b l (s.a * m) (s.b * m) (-(s.m * m + g * n)) < 0) := by
  unfold uX up
  rw [hF.1, hF.2, Int.neg_mul, Int.neg_mul, sg_neg]
  congr 1
  apply propext
  omega
/-- no blow: not both at levels that add up to none or more -/
theorem no_both (h : Ang f a b l) (hF : Face s) (hm : 0 < m) (hb : ¬ blows s) (g g' : Int) (hg : g + g' = 0) (k1 : uS f a b l s n m g = true) (k2 : uX f a b l s n m g' = true) : False := by
  rw [uX_eq hF] at k2
  unfold uS up at k1
  rw [decide_eq_true_eq] at *
  unfold blows at hb
  have h0 : 0 ≤ (s.l + s.m) * m := Int.mul_nonneg (by omega) (by omega)
  rw [Int.add_mul] at h0
  have e : g' * n = -(g * n) := by
    have : g' = -g := by omega
    rw [this, Int.neg_mul]
  have := sg_mono h (x := -(s.m * m + g' * n)) (y := s.l * m + g * n) (v0 := s.a * m) (v1 := s.b * m) (by omega) k1
  omega
theorem no_none (h : Ang f a b l) (hF : Face s) (hm : 0 < m) (hb : blows s) (g g' : Int) (hg : g + g' = 0) (k1 : uS f a b l s n m g = false) (k2 : uX f a b l s n m g' = false) : False := by
  rw [uX_eq hF] at k2
  unfold uS up at k1
  rw [decide_eq_false_iff_not] at *
  unfold blows at hb
  have h0 : (s.l + s.m) * m < 0 := Int.mul_neg_of_neg_of_pos hb hm
  rw [Int.add_mul] at h0
  have e : g' * n = -(g * n) := by
    have : g' = -g := by omega
    rw [this, Int.neg_mul]
  have := sg_strict h (x := s.l * m + g * n) (y := -(s.m * m + g' * n)) (v0 := s.a * m) (v1 := s.b * m) (by omega) k2
  exact k1 this
end
end G20

namespace G20
open PySem PySem.Spec PyProof.Rows L2 DL
/-- the well: its three numbers; at most N draws were made of the mixing kind -/
def WS (N : Nat) (S T : Sto) : Prop := ∃ r c t : Int, S = [PyData.int r, .int c, .int t] :: T ∧ 0 ≤ r ∧ 0 ≤ c ∧ c < 2147483587 ∧ 0 ≤ t ∧ t ≤ N
theorem WS.mono {N M : Nat} {S T : Sto} (h : WS N S T) (l : N ≤ M) : WS M S T := by
  obtain ⟨r, c, t, h1, h2, h3, h4, h5, h6⟩ := h
  exact ⟨r, c, t, h1, h2, h3, h4, h5, by omega⟩
theorem ix_l0 (a b c : PyData) (T : Sto) : ixW (.l 0) (.d (.int 0)) ([a, b, c] :: T) = some (.ok (.d a) ([a, b, c] :: T)) := rfl
theorem ix_l1 (a b c : PyData) (T : Sto) : ixW (.l 0) (.d (.int 1)) ([a, b, c] :: T) = some (.ok (.d b) ([a, b, c] :: T)) := rfl
theorem ix_l2 (a b c : PyData) (T : Sto) : ixW (.l 0) (.d (.int 2)) ([a, b, c] :: T) = some (.ok (.d c) ([a, b, c] :: T)) := rfl
theorem sb_0 (x a b c : PyData) (T : Sto) (ρ : Env') : asg (.sb 0 0) x (some (.l 0) :: ρ) ([a, b, c] :: T) = some (.ok (some (.l 0) :: ρ) ([x, b, c] :: T)) := by rw [asg]; rfl
theorem sb_1 (x a b c : PyData) (T : Sto) (ρ : Env') : asg (.sb 0 1) x (some (.l 0) :: ρ) ([a, b, c] :: T) = some (.ok (some (.l 0) :: ρ) ([a, x, c] :: T)) := by rw [asg]; rfl
theorem sb_2 (x a b c : PyData) (T : Sto) (ρ : Env') : asg (.sb 0 2) x (some (.l 0) :: ρ) ([a, b, c] :: T) = some (.ok (some (.l 0) :: ρ) ([a, b, x] :: T)) := by rw [asg]; rfl
theorem bd_of {x : Int} {w : Nat} (h : x.natAbs < 2 ^ w) : Bd x w := ⟨h⟩
theorem fm_pos (a : Int) {n : Int} (h : 0 < n) : 0 ≤ a.fmod n ∧ a.fmod n < n := ⟨Int.fmod_nonneg_of_pos a h, Int.fmod_lt_of_pos a h⟩
@[simp] theorem o2_mod_ (i j : Int) (h : j ≠ 0) : o2 .mod (.int i) (.int j) = some (.int (i.fmod j)) := if_pos h
theorem divOk_ {j : Int} {w : Nat} (h : Bd j w) (h0 : j ≠ 0) (hw : w < 9000) : divOk j = true := by
  unfold divOk
  have := h.log
  rw [Bool.and_eq_true]
  exact ⟨decide_eq_true h0, decide_eq_true (by omega)⟩
theorem o2_fdiv_ {i j : Int} {w : Nat} [h : Bd j w] (h0 : j ≠ 0) (hw : w < 9000) : o2 .fdiv (.int i) (.int j) = some (.int (i.fdiv j)) := by
  show (if divOk j = true then _ else _) = _
  rw [if_pos (divOk_ h h0 hw)]
theorem e_draw (k : Nat) {n : Int} {u N : Nat} [hb : Bd n u] (hu : u < 1000) (hn : 0 < n) (hN : N ≤ 100000) {S T : Sto} (h : WS N S T) :
    wp ((sm (k + 1)).call 44 [.l 0, .d (.int n)]) S fun w S' => ∃ v : Int, w = .d (.int v) ∧ 0 ≤ v ∧ v < n ∧ WS (N + 1) S' T := by
  obtain ⟨r, c, t, rfl, h1, h2, h3, h4, h5⟩ := h
  rw [r__law_draw, c__law_draw]
  have hlog := hb.log
  unfold wp finM
  by_cases hr : 0 < r
  · have hd : b1 .divmod [.int r, .int n] = some (.tuple [.int (r / n), .int (r % n)]) := if_pos ⟨hn, by omega⟩
    exact ⟨.d (.int (r % n)), [.int (r / n), .int c, .int t] :: T, by simp [bnd, re, ix_l0, hr, liftB, lift, hd, kAsg, sb_0, asgs, asg_tp, onD, liftW, asg_nm, asgs_cons, fin], r % n, rfl, Int.emod_nonneg _ (by omega), Int.emod_lt_of_pos _ hn, r / n, c, t, rfl, Int.ediv_nonneg h1 (by omega), h2, h3, h4, by omega⟩
  · have e1 := fm_pos c (n := 8009) (by decide)
    have b1 : Bd c 31 := ⟨by omega⟩
    have b2 : Bd (c.fmod 8009 + 31013) 16 := ⟨by omega⟩
    have b3 : Bd (t + 1) 17 := ⟨by omega⟩
    have e2 := fm_pos (c * (c.fmod 8009 + 31013) + 60101 * (t + 1) + 23) (n := 2147483587) (by decide)
    have e3 := fm_pos (((c * (c.fmod 8009 + 31013) + 60101 * (t + 1) + 23).fmod 2147483587).fdiv 59) hn
    have hn0 : n ≠ 0 := by omega
    have m1 : o2 .mul (.int c) (.int (c.fmod 8009 + 31013)) = some (.int (c * (c.fmod 8009 + 31013))) := o2_mul_ (by decide)
    have m2 : o2 .mul (.int 60101) (.int (t + 1)) = some (.int (60101 * (t + 1))) := o2_mul_ (by decide)
    have m3 : ∀ x : Int, o2 .fdiv (.int x) (.int 59) = some (.int (x.fdiv 59)) := fun x => o2_fdiv_ (by decide) (by decide)
    generalize hc' : (c * (c.fmod 8009 + 31013) + 60101 * (t + 1) + 23).fmod 2147483587 = c' at *
    exact ⟨.d (.int ((c'.fdiv 59).fmod n)), [.int r, .int c', .int (t + 1)] :: T, by simp [bnd, re, ix_l0, ix_l1, ix_l2, hr, liftB, lift, kAsg, sb_0, sb_1, sb_2, asgs, asg_tp, onD, liftW, asg_nm, asgs_cons, fin, m1, m2, m3, hn0]; simp [hc'], (c'.fdiv 59).fmod n, rfl, e3.1, e3.2, r, c', t + 1, rfl, h1, e2.1, e2.2, by omega, by omega⟩
end G20

namespace G20
open PySem PySem.Spec PyProof.Rows L2 DL
theorem l_sign (k : Nat) (i : Int) : (sm (k + 1)).call 49 [.d (.int i)] = re (.d (.int i.sign)) := by
  rw [r__law_sign, c__law_sign]
  simp
  congr 3
  split
  · rw [Int.sign_eq_one_of_pos (by omega)]
  · split
    · rw [show i = 0 by omega]; rfl
    · rw [Int.sign_eq_neg_one_of_neg (by omega)]
theorem rs_alt {p q d : Int} : rs p q d = if 0 ≤ p.sign * tq q d then (if p.sign = 0 then tq q d else p.sign) else p.sign * (p * p - d * q * q).sign := by
  unfold rs
  have e : d * q * q = q * q * d := by grind
  rw [e]
  have h1 : p.sign = 0 ∨ p.sign = 1 ∨ p.sign = -1 := by
    rcases Int.lt_trichotomy p 0 with h | h | h
    · rw [Int.sign_eq_neg_one_of_neg h]; simp
    · rw [h]; simp
    · rw [Int.sign_eq_one_of_pos h]; simp
  have h2 : tq q d = 0 ∨ tq q d = 1 ∨ tq q d = -1 := by
    unfold tq
    split
    · rcases Int.lt_trichotomy q 0 with h | h | h
      · rw [Int.sign_eq_neg_one_of_neg h]; simp
      · rw [h]; simp
      · rw [Int.sign_eq_one_of_pos h]; simp
    · simp
  rcases h1 with h1 | h1 | h1 <;> rcases h2 with h2 | h2 | h2 <;> simp [h1, h2]
theorem l_sign2 (k : Nat) (p q d : Int) {u v w : Nat} [Bd p u] [Bd q v] [Bd d w] (h : u + v + w < 100000) : (sm (k + 2)).call 50 [.d (.int p), .d (.int q), .d (.int d)] = re (.d (.int (rs p q d))) := by
  rw [r__law_sign_of_two, c__law_sign_of_two]
  have e : (if 0 < d then q.sign else 0) = tq q d := rfl
  have hb : Bd (tq q d) 1 := by
    unfold tq
    split
    · exact bd_sign
    · exact ⟨by decide⟩
  simp (disch := omega) only [exs_cons, ex_par, evs_cons, evs_nil, ev_call, ev_var, gt_0, gt_s, bnd_re_, kArgs_, kCons_, l_sign, ev_ite, ev_cmp, kCmp_, cmW_d, c2_gt_, liftB_some, tst_, kIte_, decide_eq_true_eq, ev_cI, ite_int_, e, kPar_2, List.set_cons_zero, List.set_cons_succ, seqF_nx]
  rw [rs_alt]
  simp (disch := omega) [l_sign]
theorem l_norm (k : Nat) (f a b : Int) {u v1 v2 : Nat} [Bd f u] [Bd a v1] [Bd b v2] (h : u + v1 + v2 < 10000) :
    (sm (k + 1)).call 51 [.d (.int f), .d (V2 a b)] = re (.d (.int (a * a + f * b * b))) := by
  rw [r__law_norm, c__law_norm]
  simp (disch := omega)
theorem l_arrow (k : Nat) (f a b l : Int) {u v1 v2 w : Nat} [Bd f u] [Bd a v1] [Bd b v2] [Bd l w] (h : u + v1 + v2 + w < 2000) :
    (sm (k + 2)).call 55 [.d (A4 f a b l)] = re (.d (.tuple [V2 (l * a) b, V2 (f * l * b) (0 - a), .int (f * (a * a + f * b * b - l * l)), .int (a * a + f * b * b)])) := by
  rw [r__law_arrow, c__law_arrow]
  simp (disch := omega) [l_norm]
theorem l_side (k : Nat) (f a b l c d lev : Int) {u v1 v2 w w1 w2 w3 : Nat} [Bd f u] [Bd a v1] [Bd b v2] [Bd l w] [Bd c w1] [Bd d w2] [Bd lev w3] (h : u + v1 + v2 + w + w1 + w2 + w3 < 1000) :
    (sm (k + 3)).call 56 [.d (A4 f a b l), .d (V2 c d), .d (.int lev)] = re (.d (.int (sg f a b l c d lev))) := by
  rw [r__law_side, c__law_side]
  simp (disch := omega) [l_arrow, l_sign2, sg]
  congr 1 <;> grind
variable {f a b sh xh sc xc port : Int} {af aa ab al : Int} {e : Str} {t : Str} {w : Nat} {n m : Int} {u v : Nat}
theorem up_neg (f a b l v0 v1 lev : Int) : up f a b l (-v0) (-v1) lev = decide (sg f a b l v0 v1 (0 - lev) < 0) := by
  unfold up
  rw [sg_neg, Int.zero_sub]
  congr 1
  apply propext
  omega
theorem l_state (k : Nat) [A : AnB af aa ab al] {w1 w2 w3 w4 w5 w6 : Nat} [Bd a w1] [Bd b w2] [Bd sh w3] [Bd xh w4] [Bd sc w5] [Bd xc w6] (hw : w1 + w2 + w3 + w4 + w5 + w6 < 300) (h : IsEnd e) :
    (sm (k + 4)).call 61 [.d (Vd f a b sh xh sc xc port), .d (.str e), .d (A4 af aa ab al)] = re (.d (.str (wordOf (st1 af aa ab al (sdOf e a b sh xh sc xc)) (st2 af aa ab al (sdOf e a b sh xh sc xc))))) := by
  have := A.f; have := A.a; have := A.b; have := A.l
  rw [r__law_state, c__law_state]
  rcases h with rfl | rfl
  · simp (disch := omega) [l_side, wordOf, st1, st2, sdOf, up_neg]
    unfold up
    by_cases h1 : 0 < sg af aa ab al a b sh <;> by_cases h2 : sg af aa ab al a b (-xh) < 0 <;> simp [h1, h2]
  · simp (disch := omega) [l_side, wordOf, st1, st2, sdOf, up_neg]
    unfold up
    by_cases h1 : 0 < sg af aa ab al a b xc <;> by_cases h2 : sg af aa ab al a b (-sc) < 0 <;> simp [h1, h2]
theorem l_moved (k : Nat) {w0 w1 w2 w3 w4 w5 w6 : Nat} [Bd a w1] [Bd b w2] [Bd sh w3] [Bd xh w4] [Bd sc w5] [Bd xc w6] [Bd n u] [Bd m v] (hw : w1 + w2 + w3 + w4 + w5 + w6 + u + v < 900) :
    (sm (k + 1)).call 64 [.d (Vd f a b sh xh sc xc port), .d (V2 n m)] = re (.d (Vd f (m * a) (m * b) (m * sh - n) (m * xh + n) (m * sc + n) (m * xc - n) port)) := by
  rw [r__law_moved, c__law_moved]
  simp (disch := omega)
end G20

namespace G20
open PySem PySem.Spec PyProof.Rows L2 DL
abbrev euT : Ex := .cmp .gt (.var 3) (.cI 0)
abbrev euB : List Sx := [.par [2, 3] [.var 3, .bin .mod (.blt .int [.var 2]) (.var 3)]]
theorem eu_step (Γ : Sm) (A B : Option W) (l r : Nat) (h : 0 < r) (n : Nat) : whW Γ euT euB (n + 1) [A, B, some (.d (.int l)), some (.d (.int r))] = whW Γ euT euB n [A, B, some (.d (.int r)), some (.d (.int (l % r : Nat)))] := by
  have h0 : (r : Int) ≠ 0 := by omega
  have e : o2 .mod (.int (l : Int)) (.int (r : Int)) = some (.int ((l % r : Nat) : Int)) := by
    rw [o2_mod_ _ _ h0, Int.fmod_eq_emod_of_nonneg _ (by omega)]
    rfl
  refine whW_go ?_ ?_
  · simp [h]
  · simp [e]
theorem eu_end (Γ : Sm) (A B : Option W) (l n : Nat) : whW Γ euT euB (n + 1) [A, B, some (.d (.int l)), some (.d (.int (0 : Nat)))] = re (.nx [A, B, some (.d (.int l)), some (.d (.int (0 : Nat)))]) := by
  refine whW_end ?_
  simp
theorem eu (Γ : Sm) (A B : Option W) : ∀ (n l r : Nat), r < 2 ^ n → ∀ fu, 2 * n + 2 ≤ fu → whW Γ euT euB fu [A, B, some (.d (.int l)), some (.d (.int r))] = re (.nx [A, B, some (.d (.int (Nat.gcd l r : Nat))), some (.d (.int (0 : Nat)))])
  | 0, l, r, h, fu, hf => by
    have h0 : r = 0 := by omega
    subst h0
    obtain ⟨f', rfl⟩ : ∃ f', fu = f' + 1 := ⟨fu - 1, by omega⟩
    rw [eu_end, Nat.gcd_zero_right]
  | n + 1, l, r, h, fu, hf => by
    obtain ⟨f', rfl⟩ : ∃ f', fu = f' + 2 := ⟨fu - 2, by omega⟩
    by_cases h0 : r = 0
    · subst h0
      rw [eu_end Γ A B l (f' + 1), Nat.gcd_zero_right]
    · rw [eu_step Γ A B l r (by omega) (f' + 1)]
      by_cases h1 : l % r = 0
      · rw [h1, eu_end Γ A B r f']
        have : Nat.gcd l r = r := by
          rw [Nat.gcd_comm, Nat.gcd_rec, h1, Nat.gcd_zero_left]
        rw [this]
      · rw [eu_step Γ A B r (l % r) (by omega) f']
        have hlt : l % r < r := Nat.mod_lt _ (by omega)
        have h2 : r % (l % r) < l % r := Nat.mod_lt _ (by omega)
        have h3 : l % r + r % (l % r) ≤ r := by
          have e := Nat.div_add_mod r (l % r)
          have : 1 ≤ r / (l % r) := Nat.div_pos (by omega) (by omega)
          have : l % r * 1 ≤ l % r * (r / (l % r)) := Nat.mul_le_mul_left _ this
          omega
        have h4 : r % (l % r) < 2 ^ n := by rw [Nat.pow_succ] at h; omega
        rw [eu Γ A B n (l % r) (r % (l % r)) h4 f' (by omega)]
        have e : Nat.gcd (l % r) (r % (l % r)) = Nat.gcd l r := by
          rw [Nat.gcd_comm l r, Nat.gcd_rec r l, Nat.gcd_rec (l % r) r, Nat.gcd_comm]
        rw [e]
theorem l_common (k : Nat) (x y : Int) {w : Nat} [hb : Bd y w] (hw : w ≤ 1000) : (sm (k + 1)).call 47 [.d (.int x), .d (.int y)] = re (.d (.int (Nat.gcd x.natAbs y.natAbs : Nat))) := by
  rw [r__law_common, c__law_common]
  have h := eu (sm k) (some (.d (.int x))) (some (.d (.int y))) w x.natAbs y.natAbs hb.h FU (by
    have : (2 : Nat) ^ 40 = FU := rfl
    have : (2 : Nat) ^ 40 = 1099511627776 := by decide
    omega)
  simp [ex_whl, h]
end G20

namespace G20
open PySem PySem.Spec PyProof.Rows L2 DL
/-! ### the root -/
abbrev rtT : Ex := .cmp .gt (.bin .sub (.var 2) (.var 1)) (.cI 1)
abbrev rtB : List Sx := [.set 3 (.bin .fdiv (.bin .add (.var 1) (.var 2)) (.cI 2)), .asgn (.tp [.nm 1, .nm 2]) (.ite (.cmp .le (.bin .mul (.var 3) (.var 3)) (.var 0)) (.tup [.var 3, .var 2]) (.tup [.var 1, .var 3]))]
theorem rt_test (Γ : Sm) (x : W) (lo hi : Int) (z : Option W) : evE Γ rtT [some x, some (.d (.int lo)), some (.d (.int hi)), z] = re (.d (.bool (decide (1 < hi - lo)))) := by
  simp
theorem rt_go (Γ : Sm) {w : Nat} (hw : w < 100000) : ∀ (n : Nat) (x lo hi : Int) (z : Option W) (fu : Nat), Bd x w → 0 ≤ lo → lo < hi → hi ≤ x + 1 → hi - lo ≤ 2 ^ n → lo * lo ≤ x → x < hi * hi → n + 1 ≤ fu →
    ∃ r z', whW Γ rtT rtB fu [some (.d (.int x)), some (.d (.int lo)), some (.d (.int hi)), z] = re (.nx [some (.d (.int x)), some (.d (.int r)), some (.d (.int (r + 1))), z']) ∧ 0 ≤ r ∧ r ≤ x ∧ r * r ≤ x ∧ x < (r + 1) * (r + 1) := by
  intro n
  induction n with
  | zero =>
    intro x lo hi z fu hb h0 h1 h2 h3 h4 h5 hf
    obtain ⟨f', rfl⟩ : ∃ f', fu = f' + 1 := ⟨fu - 1, by omega⟩
    have e : hi = lo + 1 := by omega
    subst e
    exact ⟨lo, z, whW_end (by rw [rt_test, decide_eq_false (by omega)]), h0, by omega, h4, h5⟩
  | succ n ih =>
    intro x lo hi z fu hb h0 h1 h2 h3 h4 h5 hf
    obtain ⟨f', rfl⟩ : ∃ f', fu = f' + 1 := ⟨fu - 1, by omega⟩
    by_cases he : hi = lo + 1
    · subst he
      exact ⟨lo, z, whW_end (by rw [rt_test, decide_eq_false (by omega)]), h0, by omega, h4, h5⟩
    · have hm : (lo + hi).fdiv 2 = (lo + hi) / 2 := Int.fdiv_eq_ediv_of_nonneg _ (by decide)
      generalize hmd : (lo + hi) / 2 = md at hm
      have hd : 2 * md ≤ lo + hi ∧ lo + hi < 2 * md + 2 := by omega
      have hlx : md ≤ x := by omega
      have hbm : Bd md w := ⟨by have := hb.h; omega⟩
      have d1 : o2 .fdiv (.int (lo + hi)) (.int 2) = some (.int md) := by rw [o2_fdiv_ (by decide) (by decide), hm]
      have hp : (2 : Int) ^ (n + 1) = 2 ^ n * 2 := by rw [Int.pow_succ]
      by_cases hc : md * md ≤ x
      · obtain ⟨r, z', h6, h7⟩ := ih x md hi (some (.d (.int md))) f' hb (by omega) (by omega) h2 (by omega) hc h5 (by omega)
        refine ⟨r, z', ?_, h7⟩
        rw [whW_go (ρ' := [some (.d (.int x)), some (.d (.int md)), some (.d (.int hi)), some (.d (.int md))]) ?_ ?_]
        · exact h6
        · rw [rt_test, decide_eq_true (by omega)]
        · simp (disch := omega) [d1, hc]
      · obtain ⟨r, z', h6, h7⟩ := ih x lo md (some (.d (.int md))) f' hb h0 (by omega) (by omega) (by omega) h4 (by omega) (by omega)
        refine ⟨r, z', ?_, h7⟩
        rw [whW_go (ρ' := [some (.d (.int x)), some (.d (.int lo)), some (.d (.int md)), some (.d (.int md))]) ?_ ?_]
        · exact h6
        · rw [rt_test, decide_eq_true (by omega)]
        · simp (disch := omega) [d1, hc]
theorem l_root (k : Nat) (x : Int) {w : Nat} [hb : Bd x w] (hw : w < 1000) (h0 : 0 ≤ x) : ∃ r : Int, (sm (k + 1)).call 53 [.d (.int x)] = re (.d (.int r)) ∧ 0 ≤ r ∧ r ≤ x ∧ r * r ≤ x ∧ x < (r + 1) * (r + 1) := by
  rw [r__law_root, c__law_root]
  have hx : x < 2 ^ w := by
    have := hb.h
    have e : ((2 ^ w : Nat) : Int) = 2 ^ w := by simp
    omega
  have hq : x < (x + 1) * (x + 1) := by
    have : (x + 1) * (x + 1) = x * x + 2 * x + 1 := by grind
    have := Int.mul_nonneg h0 h0
    omega
  obtain ⟨r, z', h1, h2⟩ := rt_go (sm k) (w := w) (by omega) (w + 1) x 0 (x + 1) none FU hb (by omega) (by omega) (by omega) (by rw [Int.pow_succ]; omega) (by omega) hq (by
    have : (2 : Nat) ^ 40 = FU := rfl
    have : (2 : Nat) ^ 40 = 1099511627776 := by decide
    omega)
  refine ⟨r, ?_, h2⟩
  simp [ex_whl, h1]
/-! ### reduced -/
theorem gcdL_mul (c : Nat) : ∀ (ys : List Int) (g : Nat), (ys.map fun y => (c : Int) * y).foldl (fun g x => Nat.gcd g x.natAbs) (c * g) = c * ys.foldl (fun g x => Nat.gcd g x.natAbs) g
  | [], g => rfl
  | y :: ys, g => by
    simp only [List.map_cons, List.foldl_cons]
    rw [Int.natAbs_mul, Int.natAbs_natCast, Nat.gcd_mul_left]
    exact gcdL_mul c ys _
theorem fold_dvd : ∀ (ys : List Int) (g : Nat), (ys.foldl (fun g x => Nat.gcd g x.natAbs) g) ∣ g ∧ ∀ y ∈ ys, ((ys.foldl (fun g x => Nat.gcd g x.natAbs) g : Nat) : Int) ∣ y
  | [], g => ⟨Nat.dvd_refl _, fun y h => by cases h⟩
  | y :: ys, g => by
    simp only [List.foldl_cons]
    obtain ⟨h1, h2⟩ := fold_dvd ys (Nat.gcd g y.natAbs)
    refine ⟨Nat.dvd_trans h1 (Nat.gcd_dvd_left _ _), fun z hz => ?_⟩
    rcases List.mem_cons.mp hz with rfl | hz
    · exact Int.natAbs_dvd_natAbs.mp (by rw [Int.natAbs_natCast]; exact Nat.dvd_trans h1 (Nat.gcd_dvd_right _ _))
    · exact h2 z hz
theorem gcdL_dvd {xs : List Int} {x : Int} (h : x ∈ xs) : (gcdL xs : Int) ∣ x := (fold_dvd xs 0).2 x h
/-- xs over its greatest common part -/
def redL (xs : List Int) : List Int := xs.map fun x => x / (gcdL xs : Int)
theorem redL_eq {xs : List Int} (h : 0 < gcdL xs) : xs = (redL xs).map fun y => (gcdL xs : Int) * y := by
  unfold redL
  rw [List.map_map]
  conv => lhs; rw [← List.map_id xs]
  refine List.map_congr_left fun x hx => ?_
  show x = (gcdL xs : Int) * (x / (gcdL xs : Int))
  exact (Int.mul_ediv_cancel' (gcdL_dvd hx)).symm
theorem redL_one {xs : List Int} (h : 0 < gcdL xs) : gcdL (redL xs) = 1 := by
  have e := congrArg gcdL (redL_eq h)
  have e2 := gcdL_mul (gcdL xs) (redL xs) 0
  rw [Nat.mul_zero] at e2
  have e3 : gcdL xs = gcdL xs * gcdL (redL xs) := by
    conv => lhs; rw [e]
    exact e2
  exact Nat.eq_of_mul_eq_mul_left h (by rw [← e3, Nat.mul_one])
theorem l_reduced (k : Nat) (xs : List Int) {w : Nat} (hb : ∀ x ∈ xs, Bd x w) (hw : w ≤ 1000) (hl : xs.length ≤ 1000) (hg : 0 < gcdL xs) : (sm (k + 2)).call 52 [.d (.tuple (xs.map PyData.int))] = re (.d (.tuple ((redL xs).map PyData.int))) := by
  rw [r__law_reduced, c__law_reduced]
  obtain ⟨ρ', ⟨l, g, zs, e1, e2, hz, rfl⟩, hr⟩ := frW_rel (Γ := sm (k + 1)) (k := .seq) (p := .nm 2) (b := [.set 1 (.call 47 [.var 1, .var 2])]) (ws := [.d (.tuple (xs.map PyData.int))]) (xs := xs.map PyData.int) (ρ := [some (.d (.tuple (xs.map PyData.int))), some (.d (.int 0)), none])
    (fun ys ρ => ∃ (l : Option W) (g : Nat) (zs : List Int), ys = zs.map PyData.int ∧ zs.foldl (fun g x => Nat.gcd g x.natAbs) g = gcdL xs ∧ (∀ z ∈ zs, z ∈ xs) ∧ ρ = [some (.d (.tuple (xs.map PyData.int))), some (.d (.int g)), l]) (fun _ => rfl) (by simp; show xs.length ≤ 100000; omega) ⟨none, 0, xs, rfl, rfl, fun _ h => h, rfl⟩ (by
      rintro x ys ρ ⟨l, g, zs, e1, e2, hz, rfl⟩
      cases zs with
      | nil => cases e1
      | cons z zs =>
        cases e1
        have := hb z (hz z List.mem_cons_self)
        refine ⟨_, _, by rw [asg_nm], by simp [l_common k _ _ hw]; rfl, ⟨_, Nat.gcd g z.natAbs, zs, rfl, e2, fun y hy => hz y (List.mem_cons_of_mem _ hy), rfl⟩⟩)
  have e1 : zs = [] := by simpa using e1.symm
  subst e1
  have e2 : g = gcdL xs := e2
  subst e2
  have hg0 : ((gcdL xs : Nat) : Int) ≠ 0 := by omega
  have hgb : Bd ((gcdL xs : Nat) : Int) w := by
    cases xs with
    | nil => exact absurd hg (by simp [gcdL])
    | cons x xs' =>
      -- some number is not null
      by_cases hx : ∃ y ∈ x :: xs', y ≠ 0
      · obtain ⟨y, hy, hy0⟩ := hx
        have hd := gcdL_dvd hy
        have hle : ((gcdL (x :: xs') : Nat) : Int).natAbs ≤ y.natAbs := Nat.le_of_dvd (by omega) (Int.natAbs_dvd_natAbs.mpr hd)
        exact ⟨Nat.lt_of_le_of_lt hle (hb y hy).h⟩
      · have hz : ∀ y ∈ x :: xs', y = 0 := fun y hy => by
          by_cases q : y = 0
          · exact q
          · exact absurd ⟨y, hy, q⟩ hx
        have : ∀ (l : List Int), (∀ y ∈ l, y = 0) → l.foldl (fun g x => Nat.gcd g x.natAbs) 0 = 0 := by
          intro l
          induction l with
          | nil => intro _; rfl
          | cons a l ih =>
            intro h
            rw [List.foldl_cons, h a List.mem_cons_self]
            exact ih fun y hy => h y (List.mem_cons_of_mem _ hy)
        exact absurd hg (by unfold gcdL; rw [this _ hz]; decide)
  have hc := cm_tup (Γ := sm (k + 1)) (p := .nm 2) (e := .bin .fdiv (.var 2) (.var 1)) (ρ0 := [some (.d (.tuple (xs.map PyData.int))), some (.d (.int (gcdL xs))), none]) (fun d => match d with
      | .int i => .int (i / (gcdL xs : Int))
      | _ => .none) (xs := xs.map PyData.int) (by simp; show xs.length ≤ 100000; omega) (by
    intro x hx
    obtain ⟨i, hi, rfl⟩ := List.mem_map.mp hx
    refine ⟨_, by rw [asg_nm], ?_⟩
    have : o2 .fdiv (.int i) (.int (gcdL xs : Int)) = some (.int (i / (gcdL xs : Int))) := by
      rw [o2_fdiv_ hg0 (w := w) (by omega), Int.fdiv_eq_ediv_of_nonneg _ (by omega)]
    simp [this])
  simp [ex_fors, hr, ev_cmpr, wipeE, hc, redL]
  rfl
end G20

namespace G20
open PySem PySem.Spec PyProof.Rows L2 DL
@[simp] theorem wp_re_iff {α : Type} {x : α} {S : Sto} {Q : α → Sto → Prop} : wp (re x) S Q ↔ Q x S := ⟨fun ⟨_, _, h, q⟩ => by cases h; exact q, wp_re⟩
@[simp] theorem wp_bnd_iff {α β : Type} {m : Mo α} {f : α → Mo β} {S : Sto} {Q : β → Sto → Prop} : wp (bnd m f) S Q ↔ wp m S fun a S' => wp (f a) S' Q := by
  refine ⟨fun ⟨b, S2, h, q⟩ => ?_, wp_bnd⟩
  rcases bnd_inv h with ⟨k, a, S1, _, e⟩ | ⟨a, S1, e, h1⟩
  · cases e
  · exact ⟨a, S1, e, b, S2, h1, q⟩
@[simp] theorem wp_ite_iff {α : Type} {c : Prop} [Decidable c] {m m' : Mo α} {S : Sto} {Q : α → Sto → Prop} : wp (if c then m else m') S Q ↔ (if c then wp m S Q else wp m' S Q) := by
  split <;> rfl
theorem ws_take {N M : Nat} {S S' T L : Sto} (h0 : WS N S T) (h : WS M S' (T ++ L)) : WS M (S'.take S.length) T := by
  obtain ⟨r, c, t, rfl, _⟩ := h0
  obtain ⟨r', c', t', rfl, h⟩ := h
  refine ⟨r', c', t', ?_, h⟩
  simp
theorem wp_finD {m : Mo Fl} {S T : Sto} {N M : Nat} {P : PyData → Prop} (h0 : WS N S T) (h : wp m S fun f S' => ∃ d L, f = .rt (.d d) ∧ WS M S' (T ++ L) ∧ P d) : wp (finM m) S fun w S' => ∃ d, w = .d d ∧ P d ∧ WS M S' T := by
  refine wp_fin (wp_mono h fun f S' ⟨d, L, e, hs, hp⟩ => ?_)
  subst e
  exact ⟨d, rfl, hp, ws_take h0 hs⟩
variable {N : Nat} {S T : Sto}
theorem ws_nil {M : Nat} {S' : Sto} (h : WS M S' T) : WS M S' (T ++ []) := by rw [List.append_nil]; exact h
theorem atI_get {xs : List PyData} {v : Int} (h0 : 0 ≤ v) (h1 : v < xs.length) : ∃ x ∈ xs, atD (.tuple xs) (.int v) = some x := by
  have hl : v.toNat < xs.length := by omega
  refine ⟨xs[v.toNat], List.getElem_mem hl, ?_⟩
  show atI xs v = _
  unfold atI ixN
  rw [if_pos h0, if_pos h1]
  show xs[v.toNat]? = _
  rw [List.getElem?_eq_getElem hl]
theorem l_pick (k : Nat) {xs : List PyData} (h1 : 0 < xs.length) (h2 : xs.length < 100) (hN : N ≤ 100000) (h : WS N S T) : wp ((sm (k + 2)).call 45 [.l 0, .d (.tuple xs)]) S fun w S' => ∃ d, w = .d d ∧ d ∈ xs ∧ WS (N + 1) S' T := by
  rw [r__law_pick, c__law_pick]
  refine wp_finD h ?_
  have hb : Bd (xs.length : Int) 8 := ⟨by omega⟩
  simp
  refine wp_mono (e_draw k (n := (xs.length : Int)) (by decide) (by omega) hN h) ?_
  rintro _ S1 ⟨v, rfl, h3, h4, h5⟩
  obtain ⟨x, hx, e⟩ := atI_get h3 h4
  simp [e]
  exact ⟨⟨[], ws_nil h5⟩, hx⟩
/-- a small number -/
def Sm' (b : Nat) (d : PyData) : Prop := ∃ i : Int, d = .int i ∧ i.natAbs < 2 ^ b
theorem l_number (k : Nat) (hN : N ≤ 90000) (h : WS N S T) : wp ((sm (k + 3)).call 48 [.l 0]) S fun w S' => ∃ d, w = .d d ∧ Sm' 41 d ∧ WS (N + 4) S' T := by
  rw [r__law_number, c__law_number]
  refine wp_finD h ?_
  simp
  refine wp_mono (l_pick k (by simp) (by simp) (by omega) h) ?_
  rintro _ S1 ⟨d, rfl, hd, h1⟩
  have hd : ∃ i : Int, d = .int i ∧ 0 ≤ i ∧ i ≤ 400 := by
    simp only [List.mem_cons, List.not_mem_nil, or_false] at hd
    rcases hd with rfl | rfl | rfl | rfl | rfl | rfl | rfl | rfl <;> exact ⟨_, rfl, by decide, by decide⟩
  obtain ⟨i, rfl, hi0, hi1⟩ := hd
  have hb : Bd i 9 := ⟨by omega⟩
  by_cases hi : 0 < i
  · simp [hi]
    refine wp_mono (e_draw (k + 1) (n := 2 * i + 1) (u := 12) (hb := ⟨by omega⟩) (by decide) (by omega) (by omega) h1) ?_
    rintro _ S2 ⟨v, rfl, h3, h4, h5⟩
    simp
    exact ⟨⟨[], ws_nil (h5.mono (by omega))⟩, _, rfl, by omega⟩
  · simp [hi]
    refine wp_mono (e_draw (k + 1) (n := 999983) (by decide) (by decide) (by omega) h1) ?_
    rintro _ S2 ⟨v, rfl, h3, h4, h5⟩
    have hv : Bd v 20 := ⟨by omega⟩
    simp
    refine wp_mono (e_draw (k + 1) (n := 999983) (by decide) (by decide) (by omega) h5) ?_
    rintro _ S3 ⟨u, rfl, h6, h7, h8⟩
    have hu : Bd u 20 := ⟨by omega⟩
    simp
    refine wp_mono (e_draw (k + 1) (n := 2) (by decide) (by decide) (by omega) h8) ?_
    rintro _ S4 ⟨z, rfl, h9, h10, h11⟩
    have hz : Bd z 1 := ⟨by omega⟩
    have hbb : Bd (v * 999983 + u) 40 := ⟨by omega⟩
    have hb2 : Bd (1 - 2 * z) 1 := ⟨by omega⟩
    have m1 : o2 .mul (.int (v * 999983 + u)) (.int (1 - 2 * z)) = some (.int ((v * 999983 + u) * (1 - 2 * z))) := o2_mul_ (by decide)
    simp [m1]
    exact ⟨⟨[], ws_nil (h11.mono (by omega))⟩, _, rfl, (bd_mul (h := hbb) (k := hb2)).h⟩
/-- a small vector that is not null -/
def Vec (d : PyData) : Prop := ∃ x y : Int, d = V2 x y ∧ x.natAbs < 2 ^ 41 ∧ y.natAbs < 2 ^ 41 ∧ (x ≠ 0 ∨ y ≠ 0)
theorem l_vector (k : Nat) (hN : N ≤ 80000) (h : WS N S T) : wp ((sm (k + 4)).call 54 [.l 0]) S fun w S' => ∃ d, w = .d d ∧ Vec d ∧ WS (N + 9) S' T := by
  rw [r__law_vector, c__law_vector]
  refine wp_finD h ?_
  simp
  refine wp_mono (l_number k (by omega) h) ?_
  rintro _ S1 ⟨_, rfl, ⟨x, rfl, hx⟩, h1⟩
  simp
  refine wp_mono (l_number k (by omega) h1) ?_
  rintro _ S2 ⟨_, rfl, ⟨y, rfl, hy⟩, h2⟩
  by_cases h0 : x ≠ 0 ∨ y ≠ 0
  · have : ¬ (x = 0 ∧ y = 0) := by omega
    by_cases hx0 : x = 0
    · have hy0 : y ≠ 0 := by omega
      simp [hx0, hy0]
      exact ⟨⟨[], ws_nil (h2.mono (by omega))⟩, _, _, rfl, by decide, hy, by omega⟩
    · simp [hx0]
      exact ⟨⟨[], ws_nil (h2.mono (by omega))⟩, _, _, rfl, hx, hy, by omega⟩
  · have hx0 : x = 0 := by omega
    have hy0 : y = 0 := by omega
    simp [hx0, hy0]
    refine wp_mono (e_draw (k + 2) (n := 3) (by decide) (by decide) (by omega) h2) ?_
    rintro _ S3 ⟨z, rfl, h9, h10, h11⟩
    simp
    exact ⟨⟨[], ws_nil (h11.mono (by omega))⟩, _, _, rfl, by decide, by omega, by omega⟩
end G20

namespace G20
open PySem PySem.Spec PyProof.Rows L2 DL
variable {N : Nat} {S T : Sto} {f : Int}
theorem pos_of {a b : Int} (ha : 0 < a) (h : 0 < a * b) : 0 < b := Int.lt_of_mul_lt_mul_left (a := a) (by rw [Int.mul_zero]; exact h) (by omega)
theorem sqnn (x : Int) : 0 ≤ x * x := by
  rcases Int.le_total 0 x with q | q
  · exact Int.mul_nonneg q q
  · exact Int.mul_nonneg_of_nonpos_of_nonpos q q
theorem sqp {x : Int} (h : x ≠ 0) : 0 < x * x := by
  have := sqnn x
  have : x * x ≠ 0 := fun e => h (by rcases Int.mul_eq_zero.mp e with q | q <;> exact q)
  omega
theorem norm_pos {f x y : Int} (hf : 1 ≤ f) (h : x ≠ 0 ∨ y ≠ 0) : 0 < x * x + f * y * y := by
  have h1 := sqnn x
  have h2 := sqnn y
  have h3 : f * y * y = f * (y * y) := by rw [Int.mul_assoc]
  have h4 : 0 ≤ f * (y * y) := Int.mul_nonneg (by omega) h2
  rcases h with h | h
  · have := sqp h; omega
  · have := Int.mul_pos (by omega : 0 < f) (sqp h); omega
theorem gcdL_zero {xs : List Int} (h : gcdL xs = 0) : ∀ x ∈ xs, x = 0 := fun x hx => by
  have := gcdL_dvd hx
  rw [h] at this
  simpa using this
theorem div_le {x : Int} {g : Nat} : (x / (g : Int)).natAbs ≤ x.natAbs := by
  by_cases h : g = 0
  · subst h; simp
  · have := Int.natAbs_ediv_le_natAbs x (g : Int)
    exact this
theorem l_red3 (k : Nat) {f A B L : Int} {w : Nat} (hA : A.natAbs < 2 ^ w) (hB : B.natAbs < 2 ^ w) (hL : L.natAbs < 2 ^ w) (hw : w ≤ 1000) (hf : 1 ≤ f) (hf3 : f ≤ 3) (hn : L * L < A * A + f * B * B) :
    ∃ a b l : Int, (sm (k + 2)).call 52 [.d (.tuple [.int A, .int B, .int L])] = re (.d (.tuple [.int a, .int b, .int l])) ∧ Ang f a b l ∧ a.natAbs < 2 ^ w ∧ b.natAbs < 2 ^ w ∧ l.natAbs < 2 ^ w := by
  have hg : 0 < gcdL [A, B, L] := by
    rcases Nat.eq_zero_or_pos (gcdL [A, B, L]) with h | h
    · have h1 := gcdL_zero h A (by simp)
      have h2 := gcdL_zero h B (by simp)
      have h3 := gcdL_zero h L (by simp)
      subst h1 h2 h3
      simp at hn
    · exact h
  have h := l_reduced k [A, B, L] (w := w) (by
    intro x hx
    simp only [List.mem_cons, List.not_mem_nil, or_false] at hx
    rcases hx with rfl | rfl | rfl
    · exact ⟨hA⟩
    · exact ⟨hB⟩
    · exact ⟨hL⟩) hw (by simp) hg
  have e := redL_eq hg
  have e1 := redL_one hg
  generalize hgg : gcdL [A, B, L] = g at *
  have hr : redL [A, B, L] = [A / (g : Int), B / (g : Int), L / (g : Int)] := by unfold redL; rw [hgg]; rfl
  rw [hr] at h e e1
  simp only [List.map_cons, List.map_nil, List.cons.injEq, and_true] at h e
  obtain ⟨ea, eb, el⟩ := e
  refine ⟨_, _, _, h, ⟨hf, hf3, e1, ?_⟩, Nat.lt_of_le_of_lt div_le hA, Nat.lt_of_le_of_lt div_le hB, Nat.lt_of_le_of_lt div_le hL⟩
  generalize A / (g : Int) = a at *
  generalize B / (g : Int) = b at *
  generalize L / (g : Int) = l at *
  subst ea eb el
  have hgp : (0 : Int) < (g : Int) * (g : Int) := Int.mul_pos (by omega) (by omega)
  have e2 : (g : Int) * a * ((g : Int) * a) + f * ((g : Int) * b) * ((g : Int) * b) - (g : Int) * l * ((g : Int) * l) = (g : Int) * g * (a * a + f * b * b - l * l) := by grind
  have e3 : 0 < (g : Int) * g * (a * a + f * b * b - l * l) := by omega
  have := pos_of hgp e3
  omega
/-- a way whose length is whole -/
def Way (f : Int) (d : PyData) : Prop := ∃ x y m : Int, d = V2 x y ∧ x.natAbs < 2 ^ 90 ∧ y.natAbs < 2 ^ 90 ∧ 0 < m ∧ m * m = x * x + f * y * y
theorem l_whole_way (k : Nat) (hf : 1 ≤ f) (hf3 : f ≤ 3) (hN : N ≤ 80000) (h : WS N S T) : wp ((sm (k + 4)).call 58 [.l 0, .d (.int f)]) S fun w S' => ∃ d, w = .d d ∧ Way f d ∧ WS (N + 8) S' T := by
  rw [r__law_whole_way, c__law_whole_way]
  refine wp_finD h ?_
  have hfb : Bd f 2 := ⟨by omega⟩
  simp
  refine wp_mono (l_number k (by omega) h) ?_
  rintro _ S1 ⟨_, rfl, ⟨p, rfl, hp⟩, h1⟩
  simp
  refine wp_mono (l_number k (by omega) h1) ?_
  rintro _ S2 ⟨_, rfl, ⟨q, rfl, hq⟩, h2⟩
  have hbp : Bd p 41 := ⟨hp⟩
  have hbq : Bd q 41 := ⟨hq⟩
  have hb1 : Bd (p * p - f * q * q) 90 := (inferInstance : Bd (p * p - f * q * q) (max (41 + 41) (2 + 41 + 41) + 1)).mono (by decide)
  have hb2 : Bd (2 * p * q) 90 := (inferInstance : Bd (2 * p * q) (2 + 41 + 41)).mono (by decide)
  by_cases h0 : p * p - f * q * q = 0 ∧ 2 * p * q = 0
  · simp [h0.1, h0.2]
    exact ⟨⟨[], ws_nil (h2.mono (by omega))⟩, 1, 0, 1, rfl, by decide, by decide, by decide, by simp⟩
  · have hg : 0 < gcdL [p * p - f * q * q, 2 * p * q] := by
      rcases Nat.eq_zero_or_pos (gcdL [p * p - f * q * q, 2 * p * q]) with e | e
      · exact absurd ⟨gcdL_zero e _ (by simp), gcdL_zero e _ (by simp)⟩ h0
      · exact e
    have hr := l_reduced (k + 1) [p * p - f * q * q, 2 * p * q] (w := 90) (by
      intro x hx
      simp only [List.mem_cons, List.not_mem_nil, or_false] at hx
      rcases hx with rfl | rfl
      · exact hb1
      · exact hb2) (by decide) (by simp) hg
    have e := redL_eq hg
    generalize hgg : gcdL [p * p - f * q * q, 2 * p * q] = g at *
    have hrr : redL [p * p - f * q * q, 2 * p * q] = [(p * p - f * q * q) / (g : Int), (2 * p * q) / (g : Int)] := by unfold redL; rw [hgg]; rfl
    rw [hrr] at hr e
    simp only [List.map_cons, List.map_nil, List.cons.injEq, and_true] at hr e
    have hx : ((p * p - f * q * q) / (g : Int)).natAbs < 2 ^ 90 := Nat.lt_of_le_of_lt div_le hb1.h
    have hy : ((2 * p * q) / (g : Int)).natAbs < 2 ^ 90 := Nat.lt_of_le_of_lt div_le hb2.h
    have fin_ : Way f (V2 ((p * p - f * q * q) / (g : Int)) ((2 * p * q) / (g : Int))) := by
      generalize (p * p - f * q * q) / (g : Int) = x at *
      generalize (2 * p * q) / (g : Int) = y at *
      obtain ⟨ex, ey⟩ := e
      have hM : 0 < p * p + f * q * q := norm_pos hf (by
        by_cases hp0 : p = 0
        · right
          rintro rfl
          subst hp0
          exact h0 ⟨by simp, by simp⟩
        · exact .inl hp0)
      have id1 : (g : Int) * g * (x * x + f * y * y) = (p * p + f * q * q) * (p * p + f * q * q) := by
        have a1 : (g : Int) * g * (x * x + f * y * y) = ((g : Int) * x) * ((g : Int) * x) + f * ((g : Int) * y) * ((g : Int) * y) := by grind
        rw [a1, ← ex, ← ey]
        grind
      have hd : (g : Int) ∣ p * p + f * q * q := by
        have d1 : ((g ^ 2 : Nat)) ∣ (p * p + f * q * q).natAbs ^ 2 := by
          have : ((g : Int) * g) ∣ (p * p + f * q * q) * (p * p + f * q * q) := ⟨_, id1.symm⟩
          have := Int.natAbs_dvd_natAbs.mpr this
          rw [Int.natAbs_mul, Int.natAbs_mul, Int.natAbs_natCast] at this
          rw [Nat.pow_two, Nat.pow_two]
          exact this
        have d2 := (Nat.pow_dvd_pow_iff (by decide)).mp d1
        exact Int.natAbs_dvd_natAbs.mp (by rw [Int.natAbs_natCast]; exact d2)
      obtain ⟨m, hm⟩ := hd
      have hgp : (0 : Int) < (g : Int) := by omega
      refine ⟨x, y, m, rfl, hx, hy, ?_, ?_⟩
      · rw [hm] at hM
        exact pos_of hgp hM
      · rw [hm] at id1
        have e2 : (g : Int) * g * (x * x + f * y * y) = (g : Int) * g * (m * m) := by rw [id1]; grind
        exact (Int.eq_of_mul_eq_mul_left (by have := Int.mul_pos hgp hgp; omega) e2).symm
    by_cases hz : p * p - f * q * q = 0
    · have hz2 : ¬ 2 * p * q = 0 := fun z => h0 ⟨hz, z⟩
      rw [hz] at hr fin_
      simp [hz, hz2, hr]
      exact ⟨⟨[], ws_nil (h2.mono (by omega))⟩, by simpa using fin_⟩
    · simp [hz, hr]
      exact ⟨⟨[], ws_nil (h2.mono (by omega))⟩, fin_⟩
end G20

namespace G20
open PySem PySem.Spec PyProof.Rows L2 DL
variable {N : Nat} {S T : Sto} {f : Int}
/-- a good angle, as data -/
def GA (f : Int) (d : PyData) : Prop := ∃ a b l : Int, d = A4 f a b l ∧ Ang f a b l ∧ AnB f a b l
theorem ga_of {f a b l : Int} {w : Nat} (h : Ang f a b l) (ha : a.natAbs < 2 ^ w) (hb : b.natAbs < 2 ^ w) (hl : l.natAbs < 2 ^ w) (hw : w ≤ 200) : GA f (A4 f a b l) := by
  have := h.f1; have := h.f3
  exact ⟨a, b, l, rfl, h, ⟨by omega⟩, (⟨ha⟩ : Bd a w).mono hw, (⟨hb⟩ : Bd b w).mono hw, (⟨hl⟩ : Bd l w).mono hw⟩
theorem root_eq {m r : Int} (hm : 0 ≤ m) (hr : 0 ≤ r) (h1 : r * r ≤ m * m) (h2 : m * m < (r + 1) * (r + 1)) : r = m := by
  rcases Int.lt_trichotomy r m with h | h | h
  · have h3 : r + 1 ≤ m := h
    have : (r + 1) * (r + 1) ≤ m * m := Int.mul_le_mul h3 h3 (by omega) (by omega)
    omega
  · exact h
  · have := sq_lt hm h
    omega
theorem sq_bd {m c : Int} (hm : 0 ≤ m) (hc : 0 ≤ c) (h : m * m < c * c) : m < c := by
  by_cases q : m < c
  · exact q
  · have := Int.mul_le_mul (show c ≤ m by omega) (show c ≤ m by omega) hc hm
    omega
theorem nat_le_int {x : Int} {w : Nat} (h : x.natAbs < 2 ^ w) : x < 2 ^ w ∧ -(2 ^ w) < x := by
  have e : ((2 ^ w : Nat) : Int) = 2 ^ w := by simp
  omega
theorem l_angle_at (k : Nat) {x y m v0 v1 : Int} (hf : 1 ≤ f) (hf3 : f ≤ 3) (hx : x.natAbs < 2 ^ 90) (hy : y.natAbs < 2 ^ 90) (hm : 0 < m) (hmm : m * m = x * x + f * y * y) (h0 : v0.natAbs < 2 ^ 41) (h1 : v1.natAbs < 2 ^ 41) :
    ∃ d, (sm (k + 3)).call 57 [.d (.int f), .d (V2 x y), .d (V2 v0 v1)] = re (.d d) ∧ (d = .none ∨ GA f d) := by
  have hfb : Bd f 2 := ⟨by omega⟩
  have hxb : Bd x 90 := ⟨hx⟩
  have hyb : Bd y 90 := ⟨hy⟩
  have h0b : Bd v0 41 := ⟨h0⟩
  have h1b : Bd v1 41 := ⟨h1⟩
  have hnb : Bd (x * x + f * y * y) 184 := (inferInstance : Bd (x * x + f * y * y) (max (90 + 90) (2 + 90 + 90) + 1)).mono (by decide)
  have hmb : m < 2 ^ 92 := by
    refine sq_bd (by omega) (by decide) ?_
    have := (nat_le_int hnb.h).1
    rw [hmm]
    rw [show (2 : Int) ^ 92 * 2 ^ 92 = 2 ^ 184 by decide]
    exact this
  have hmB : Bd m 92 := ⟨by omega⟩
  obtain ⟨r, hr, hr0, _, hr1, hr2⟩ := l_root (k + 1) (x * x + f * y * y) (by decide) (by rw [← hmm]; exact sqnn m)
  rw [← hmm] at hr1 hr2
  obtain rfl := root_eq (by omega) hr0 hr1 hr2
  rw [r__law_angle_at, c__law_angle_at]
  by_cases hrise : x * v1 - y * v0 = 0
  · refine ⟨.none, ?_, .inl rfl⟩
    simp [l_norm, hr, hrise]
  · have key : ∀ s : Int, s = 1 ∨ s = -1 → ∃ d, (sm (k + 2)).call 52 [.d (.tuple [.int (s * r * v0), .int (s * r * v1), .int (s * (x * v0 + f * y * v1))])] = re (.d d) ∧ ∃ a b l, d = .tuple [.int a, .int b, .int l] ∧ GA f (A4 f a b l) := by
      intro s hs
      have hsb : Bd s 1 := ⟨by omega⟩
      have b1 : Bd (s * r * v0) 180 := (inferInstance : Bd (s * r * v0) (1 + 92 + 41)).mono (by decide)
      have b2 : Bd (s * r * v1) 180 := (inferInstance : Bd (s * r * v1) (1 + 92 + 41)).mono (by decide)
      have b3 : Bd (s * (x * v0 + f * y * v1)) 180 := (inferInstance : Bd (s * (x * v0 + f * y * v1)) (1 + (max (90 + 41) (2 + 90 + 41) + 1))).mono (by decide)
      have hs2 : s * s = 1 := by rcases hs with rfl | rfl <;> rfl
      have id1 : s * r * v0 * (s * r * v0) + f * (s * r * v1) * (s * r * v1) - s * (x * v0 + f * y * v1) * (s * (x * v0 + f * y * v1)) = s * s * (f * (x * v1 - y * v0) * (x * v1 - y * v0)) := by
        have e : s * r * v0 * (s * r * v0) + f * (s * r * v1) * (s * r * v1) = s * s * (r * r) * (v0 * v0 + f * v1 * v1) := by grind
        rw [e, hmm]
        grind
      rw [hs2, Int.one_mul] at id1
      have hp : 0 < f * (x * v1 - y * v0) * (x * v1 - y * v0) := by
        rw [Int.mul_assoc]
        exact Int.mul_pos (by omega) (sqp hrise)
      obtain ⟨a, b, l, e1, e2, e3, e4, e5⟩ := l_red3 k b1.h b2.h b3.h (by decide) hf hf3 (by omega)
      exact ⟨_, e1, a, b, l, rfl, ga_of e2 e3 e4 e5 (by decide)⟩
    by_cases hpos : y * v0 < x * v1
    · obtain ⟨d, e1, a, b, l, rfl, hga⟩ := key 1 (.inl rfl)
      refine ⟨A4 f a b l, ?_, .inr hga⟩
      simp only [Int.one_mul] at e1
      simp [l_norm, hr, hrise, hpos, e1]
    · obtain ⟨d, e1, a, b, l, rfl, hga⟩ := key (-1) (.inr rfl)
      refine ⟨A4 f a b l, ?_, .inr hga⟩
      simp only [show ∀ z : Int, -1 * z = -z from fun z => by omega] at e1
      simp [l_norm, hr, hrise, hpos, e1]
@[simp] theorem c2_isntN (d : PyData) : c2 .isnt d .none = some (!isNon d) := by
  cases d <;> rfl
theorem l_angle (k : Nat) (hf : 1 ≤ f) (hf3 : f ≤ 3) (hN : N ≤ 70000) (h : WS N S T) : wp ((sm (k + 5)).call 59 [.l 0, .d (.int f)]) S fun w S' => ∃ d, w = .d d ∧ GA f d ∧ WS (N + 20) S' T := by
  rw [r__law_angle, c__law_angle]
  refine wp_finD h ?_
  have hfb : Bd f 2 := ⟨by omega⟩
  simp
  refine wp_mono (e_draw (k + 3) (n := 6) (by decide) (by decide) (by omega) h) ?_
  rintro _ S1 ⟨v, rfl, hv0, hv1, h1⟩
  simp
  refine wp_mono (l_vector k (by omega) h1) ?_
  rintro _ S2 ⟨_, rfl, ⟨x, y, rfl, hx, hy, hnz⟩, h2⟩
  have hxb : Bd x 41 := ⟨hx⟩
  have hyb : Bd y 41 := ⟨hy⟩
  have hnp := norm_pos hf hnz
  by_cases hs0 : v = 0
  · subst hs0
    have b1 : Bd (0 - f * y) 60 := (inferInstance : Bd (0 - f * y) (max 0 (2 + 41) + 1)).mono (by decide)
    have hn : (0 : Int) * 0 < (0 - f * y) * (0 - f * y) + f * x * x := by
      rcases hnz with hz | hz
      · have := sqnn (0 - f * y)
        have : 0 < f * x * x := by rw [Int.mul_assoc]; exact Int.mul_pos (by omega) (sqp hz)
        omega
      · have hz' : 0 - f * y ≠ 0 := by
          have := Int.mul_ne_zero (show f ≠ 0 by omega) hz
          omega
        have := sqp hz'
        have : 0 ≤ f * x * x := by rw [Int.mul_assoc]; exact Int.mul_nonneg (by omega) (sqnn x)
        omega
    obtain ⟨a, b, l, e1, e2, e3, e4, e5⟩ := l_red3 (k + 2) b1.h (hxb.mono (by decide : 41 ≤ 60)).h (show (0 : Int).natAbs < 2 ^ 60 by decide) (by decide) hf hf3 hn
    simp only [Int.zero_sub] at e1
    simp [e1]
    exact ⟨⟨[], ws_nil (h2.mono (by omega))⟩, ga_of e2 e3 e4 e5 (by decide)⟩
  by_cases hs1 : v = 1
  · subst hs1
    simp
    refine wp_mono (l_whole_way k hf hf3 (by omega) h2) ?_
    rintro _ S3 ⟨_, rfl, ⟨p, q, m, rfl, hp, hq, hm, hmm⟩, h3⟩
    obtain ⟨d, e1, e2⟩ := l_angle_at (k + 1) hf hf3 hp hq hm hmm hx hy
    rcases e2 with rfl | ⟨a, b, l, rfl, hA, hB⟩
    · simp [e1, isNon]
      refine ⟨⟨[], ws_nil (h3.mono (by omega))⟩, ?_⟩
      exact ga_of (w := 2) ⟨hf, hf3, by decide, by omega⟩ (by decide) (by decide) (by decide) (by decide)
    · simp [e1, isNon]
      exact ⟨⟨[], ws_nil (h3.mono (by omega))⟩, a, b, l, rfl, hA, hB⟩
  · have hnb : Bd (x * x + f * y * y - 1) 90 := (inferInstance : Bd (x * x + f * y * y - 1) (max (max (41 + 41) (2 + 41 + 41) + 1) 1 + 1)).mono (by decide)
    obtain ⟨r, hr, hr0, hr3, hr1, hr2⟩ := l_root (k + 3) (x * x + f * y * y - 1) (by decide) (by omega)
    have hrb : Bd r 90 := ⟨by have := hnb.h; omega⟩
    have fin_ : ∀ (lev : Int) (S4 : Sto), -r ≤ lev → lev ≤ r → WS (N + 12) S4 T → wp ((sm (k + 4)).call 52 [.d (.tuple [.int x, .int y, .int lev])]) S4 fun a S' => ∃ p q l, a = .d (.tuple [.int p, .int q, .int l]) ∧ GA f (A4 f p q l) ∧ WS (N + 20) S' T := by
      intro lev S4 hl1 hl2 hs
      have hlb : lev.natAbs < 2 ^ 90 := by have := hrb.h; omega
      have hle : lev * lev ≤ r * r := by
        rcases Int.le_total 0 lev with q | q
        · exact Int.mul_le_mul hl2 hl2 q hr0
        · have := Int.mul_le_mul (show -lev ≤ r by omega) (show -lev ≤ r by omega) (by omega) hr0
          rwa [Int.neg_mul_neg] at this
      obtain ⟨a, b, l, e1, e2, e3, e4, e5⟩ := l_red3 (k + 2) (hxb.mono (by decide : 41 ≤ 90)).h (hyb.mono (by decide : 41 ≤ 90)).h hlb (by decide) hf hf3 (by omega)
      rw [e1]
      exact wp_re ⟨a, b, l, rfl, ga_of e2 e3 e4 e5 (by decide), hs.mono (by omega)⟩
    by_cases hs2 : v = 2
    · subst hs2
      simp [l_norm, hr]
      refine wp_mono (e_draw (k + 3) (n := 2) (by decide) (by decide) (by omega) h2) ?_
      rintro _ S3 ⟨z, rfl, h9, h10, h11⟩
      have hzb : Bd (1 - 2 * z) 1 := ⟨by omega⟩
      have hzb0 : Bd z 1 := ⟨by omega⟩
      have m1 : o2 .mul (.int r) (.int (1 - 2 * z)) = some (.int (r * (1 - 2 * z))) := o2_mul_ (by decide)
      have hz : z = 0 ∨ z = 1 := by omega
      simp [m1]
      refine wp_mono (fin_ (r * (1 - 2 * z)) S3 (by rcases hz with rfl | rfl <;> omega) (by rcases hz with rfl | rfl <;> omega) (h11.mono (by omega))) ?_
      rintro _ S5 ⟨p, q, l, rfl, hga, hs5⟩
      simp
      exact ⟨⟨[], ws_nil hs5⟩, hga⟩
    · simp [l_norm, hr, hs0, hs1, hs2]
      refine wp_mono (e_draw (k + 3) (n := 2 * r + 1) (by decide) (by omega) (by omega) h2) ?_
      rintro _ S3 ⟨z, rfl, h9, h10, h11⟩
      simp
      refine wp_mono (fin_ (z - r) S3 (by omega) (by omega) (h11.mono (by omega))) ?_
      rintro _ S5 ⟨p, q, l, rfl, hga, hs5⟩
      simp
      exact ⟨⟨[], ws_nil hs5⟩, hga⟩
end G20

namespace G20
open PySem PySem.Spec PyProof.Rows L2 DL
variable {N : Nat} {S T : Sto} {f : Int}
abbrev vlB : List Sx := [.set 8 (.bin .sub (.call 44 [.var 0, .bin .add (.bin .mul (.cI 2) (.var 6)) (.cI 1)]) (.var 6)), .app 7 (.call 45 [.var 0, .tup [.var 8, .var 8, .var 8, .bin .fdiv (.var 8) (.cI 3), .cI 0, .var 6, .bin .sub (.cI 0) (.var 6), .bin .add (.var 6) (.cI 1), .bin .sub (.bin .sub (.cI 0) (.var 6)) (.cI 1)]])]
abbrev vlR : List Sx := [
  .par [6, 7] [.call 53 [.call 51 [.var 1, .var 5]], .lstL []],
  .fors (.nm 2) .rng1 [.cI 4] [.set 8 (.bin .sub (.call 44 [.var 0, .bin .add (.bin .mul (.cI 2) (.var 6)) (.cI 1)]) (.var 6)), .app 7 (.call 45 [.var 0, .tup [.var 8, .var 8, .var 8, .bin .fdiv (.var 8) (.cI 3), .cI 0, .var 6, .bin .sub (.cI 0) (.var 6), .bin .add (.var 6) (.cI 1), .bin .sub (.bin .sub (.cI 0) (.var 6)) (.cI 1)]])],
  .set 3 (.call 52 [.bin .add (.bin .add (.var 5) (.blt .tuple [.var 7])) (.tup [.bin .add (.cI 1) (.blt .abs [.call 48 [.var 0]])])]),
  .ret (.tup [.var 1, .slc (.var 3) false .cN true (.cI 2), .slc (.var 3) true (.cI 2) true (.cI 6), .idx (.var 3) (.cI 6)])]
/-- a good valve, as data -/
def GV (f : Int) (d : PyData) : Prop := ∃ a b sh xh sc xc port : Int, d = Vd f a b sh xh sc xc port ∧ Val f a b sh xh sc xc port ∧ a.natAbs < 2 ^ 96 ∧ b.natAbs < 2 ^ 96 ∧ sh.natAbs < 2 ^ 96 ∧ xh.natAbs < 2 ^ 96 ∧ sc.natAbs < 2 ^ 96 ∧ xc.natAbs < 2 ^ 96
theorem ws_len {N : Nat} {S T : Sto} (h : WS N S T) : S.length = T.length + 1 := by
  obtain ⟨r, c, t, rfl, _⟩ := h
  rfl
theorem ws_new {N : Nat} {S T : Sto} (h : WS N S T) (xs : List PyData) : WS N (S ++ [xs]) (T ++ [xs]) := by
  obtain ⟨r, c, t, rfl, h⟩ := h
  exact ⟨r, c, t, rfl, h⟩
theorem ws_get {N : Nat} {S T : Sto} {xs : List PyData} (h : WS N S (T ++ [xs])) : S[T.length + 1]? = some xs := by
  obtain ⟨r, c, t, rfl, h⟩ := h
  simp
theorem ws_set {N : Nat} {S T : Sto} {xs : List PyData} (h : WS N S (T ++ [xs])) (ys : List PyData) : WS N (S.set (T.length + 1) ys) (T ++ [ys]) := by
  obtain ⟨r, c, t, rfl, h⟩ := h
  refine ⟨r, c, t, ?_, h⟩
  simp
theorem wp_newL {xs : List PyData} {S : Sto} {Q : W → Sto → Prop} (h : Q (.l S.length) (S ++ [xs])) : wp (newL xs) S Q := ⟨_, _, rfl, h⟩
theorem wp_tupL {j : Nat} {xs : List PyData} {S : Sto} {Q : W → Sto → Prop} (e : S[j]? = some xs) (h : Q (.d (.tuple xs)) S) : wp (blW .tuple [.l j]) S Q := by
  refine ⟨.d (.tuple xs), S, ?_, h⟩
  have : asDs [W.l j] S = some (.ok [PyData.list xs] S) := by
    show (bnd (asD (.l j)) fun x => bnd (asDs []) fun xs => re (x :: xs)) S = _
    have e2 : asD (.l j) S = some (.ok (.list xs) S) := by
      show (match S[j]? with
        | some xs => some (Out.ok (PyData.list xs) S)
        | none => none) = _
      rw [e]
    simp only [bnd, e2, asDs, re]
  unfold blW
  simp only [bnd, this]
  rfl
theorem wp_app {Γ : Sm} {ρ : Env'} {i j : Nat} {e : Ex} {S : Sto} {Q : Fl → Sto → Prop} (h0 : ρ[i]? = some (some (.l j))) (h : wp (evE Γ e ρ) S fun w S' => ∃ d xs, w = .d d ∧ S'[j]? = some xs ∧ xs.length < 1000 ∧ Q (.nx ρ) (S'.set j (xs ++ [d]))) : wp (exS Γ (.app i e) ρ) S Q := by
  obtain ⟨w, S', h1, d, xs, rfl, h2, h3, q⟩ := h
  refine ⟨.nx ρ, _, ?_, q⟩
  rw [exS, h0]
  have hl : xs.length < LIM := by show xs.length < 100000; omega
  simp only [lift, bnd, h1, onD, h2, hl, if_true]
theorem ix_sub {a b : Int} (h : b.natAbs ≤ a.natAbs) {w : Nat} (h2 : a.natAbs < 2 ^ w) : b.natAbs < 2 ^ w := Nat.lt_of_le_of_lt h h2
/-- from the vector on -/
theorem valve_rest (k : Nat) (hf : 1 ≤ f) (hf3 : f ≤ 3) (hN : N ≤ 60000) {x y : Int} (hx : x.natAbs < 2 ^ 92) (hy : y.natAbs < 2 ^ 92) (w4 w9 w10 : Option W) (h : WS N S T) :
    wp (exSs (sm (k + 4)) vlR [some (.l 0), some (.d (.int f)), none, none, w4, some (.d (V2 x y)), none, none, none, w9, w10]) S fun g S' => ∃ d L, g = .rt (.d d) ∧ WS (N + 30) S' (T ++ L) ∧ GV f d := by
  have hfb : Bd f 2 := ⟨by omega⟩
  have hxb : Bd x 92 := ⟨hx⟩
  have hyb : Bd y 92 := ⟨hy⟩
  have hnb : Bd (x * x + f * y * y) 188 := (inferInstance : Bd (x * x + f * y * y) (max (92 + 92) (2 + 92 + 92) + 1)).mono (by decide)
  have hn0 : 0 ≤ x * x + f * y * y := by
    have := sqnn x
    have : 0 ≤ f * y * y := by rw [Int.mul_assoc]; exact Int.mul_nonneg (by omega) (sqnn y)
    omega
  obtain ⟨r, hr, hr0, _, hr1, hr2⟩ := l_root (k + 3) (x * x + f * y * y) (by decide) hn0
  have hrb : r < 2 ^ 94 := by
    refine sq_bd hr0 (by decide) ?_
    have := (nat_le_int hnb.h).1
    rw [show (2 : Int) ^ 94 * 2 ^ 94 = 2 ^ 188 by decide]
    omega
  have hrB : Bd r 94 := ⟨by omega⟩
  simp [l_norm, hr, ex_fors]
  refine wp_newL ?_
  have h1 := ws_new h []
  rw [ws_len h]
  refine wp_for (fun ys ρ S' => ∃ (w2 w8 : Option W) (laps : List Int), ys.length + laps.length = 4 ∧ (∀ z ∈ laps, z.natAbs < 2 ^ 95) ∧ WS (N + 2 * laps.length) S' (T ++ [laps.map PyData.int]) ∧ ρ = [some (.l 0), some (.d (.int f)), w2, none, w4, some (.d (V2 x y)), some (.d (.int r)), some (.l (T.length + 1)), w8, w9, w10]) (xs := rngUp 0 4) (g := []) rfl (by decide) ⟨none, none, [], rfl, by simp, h1, rfl⟩ (fun _ _ _ _ j hj => by cases hj) ?_ ?_
  · rintro ρ' S' ⟨w2, w8, laps, hl, hb, hs, rfl⟩
    have hl4 : laps.length = 4 := by simpa using hl
    match laps, hl4 with
    | [l0, l1, l2, l3], _ =>
      simp
      refine wp_tupL (ws_get hs) ?_
      simp
      refine wp_mono (l_number (k + 1) (by simp at hs ⊢; omega) hs) ?_
      rintro _ S2 ⟨_, rfl, ⟨z, rfl, hz⟩, h2⟩
      have hall : ∀ q ∈ [x, y, l0, l1, l2, l3, 1 + (z.natAbs : Int)], q.natAbs < 2 ^ 96 := by
        intro q hq
        simp only [List.mem_cons, List.not_mem_nil, or_false] at hq
        have b0 := hb l0 (by simp)
        have b1 := hb l1 (by simp)
        have b2 := hb l2 (by simp)
        have b3 := hb l3 (by simp)
        rcases hq with rfl | rfl | rfl | rfl | rfl | rfl | rfl <;> omega
      have hg : 0 < gcdL [x, y, l0, l1, l2, l3, 1 + (z.natAbs : Int)] := by
        rcases Nat.eq_zero_or_pos (gcdL [x, y, l0, l1, l2, l3, 1 + (z.natAbs : Int)]) with e | e
        · have := gcdL_zero e (1 + (z.natAbs : Int)) (by simp)
          omega
        · exact e
      have hrd := l_reduced (k + 2) [x, y, l0, l1, l2, l3, 1 + (z.natAbs : Int)] (w := 96) (fun q hq => ⟨hall q hq⟩) (by decide) (by simp) hg
      have e1 := redL_one hg
      have e0 := redL_eq hg
      generalize hgg : gcdL [x, y, l0, l1, l2, l3, 1 + (z.natAbs : Int)] = g at *
      have hrr : redL [x, y, l0, l1, l2, l3, 1 + (z.natAbs : Int)] = [x / (g : Int), y / (g : Int), l0 / (g : Int), l1 / (g : Int), l2 / (g : Int), l3 / (g : Int), (1 + (z.natAbs : Int)) / (g : Int)] := by unfold redL; rw [hgg]; rfl
      rw [hrr] at hrd e1 e0
      simp only [List.map_cons, List.map_nil, List.cons.injEq, and_true] at hrd e0
      simp [hrd]
      have hp : 0 < (1 + (z.natAbs : Int)) / (g : Int) := by
        refine pos_of (a := (g : Int)) (by omega) ?_
        rw [← e0.2.2.2.2.2.2]
        omega
      refine ⟨⟨_, h2.mono (by simp)⟩, _, _, _, _, _, _, _, rfl, ⟨hf, hf3, hp, e1⟩, Nat.lt_of_le_of_lt div_le (hall x (by simp)), Nat.lt_of_le_of_lt div_le (hall y (by simp)), Nat.lt_of_le_of_lt div_le (hall l0 (by simp)), Nat.lt_of_le_of_lt div_le (hall l1 (by simp)), Nat.lt_of_le_of_lt div_le (hall l2 (by simp)), Nat.lt_of_le_of_lt div_le (hall l3 (by simp))⟩
  · rintro x1 ys ρ' S' ⟨w2, w8, laps, hl, hb, hs, rfl⟩
    simp
    have hll : laps.length ≤ 3 := by simp at hl; omega
    refine wp_mono (e_draw (k + 3) (n := 2 * r + 1) (by decide) (by omega) (by omega) hs) ?_
    rintro _ S2 ⟨v, rfl, hv0, hv1, h2⟩
    have d3 : o2 .fdiv (.int (v - r)) (.int 3) = some (.int ((v - r) / 3)) := by rw [o2_fdiv_ (by decide) (by decide), Int.fdiv_eq_ediv_of_nonneg _ (by decide)]
    simp
    refine wp_app (j := T.length + 1) (by simp) ?_
    simp [d3]
    refine wp_mono (l_pick (k + 2) (by simp) (by simp) (by omega) h2) ?_
    rintro _ S3 ⟨d, rfl, hd, h3⟩
    have hd : ∃ i : Int, d = .int i ∧ i.natAbs < 2 ^ 95 := by
      simp only [List.mem_cons, List.not_mem_nil, or_false] at hd
      rcases hd with rfl | rfl | rfl | rfl | rfl | rfl | rfl | rfl | rfl <;> exact ⟨_, rfl, by omega⟩
    obtain ⟨i, rfl, hi⟩ := hd
    refine ⟨_, rfl, _, ws_get h3, by simp; omega, ?_⟩
    refine ⟨_, _, laps ++ [i], by simp at hl ⊢; omega, ?_, ?_, rfl, rfl⟩
    · intro z hz
      rcases List.mem_append.mp hz with q | q
      · exact hb z q
      · obtain rfl : z = i := by simpa using q
        exact hi
    · have := ws_set h3 (laps.map PyData.int ++ [PyData.int i])
      rw [List.map_append]
      exact this.mono (by simp; omega)
end G20

namespace G20
open PySem PySem.Spec PyProof.Rows L2 DL
variable {N : Nat} {S T : Sto} {f : Int}
theorem l_valve (k : Nat) (hf : 1 ≤ f) (hf3 : f ≤ 3) (hN : N ≤ 50000) (h : WS N S T) : wp ((sm (k + 5)).call 60 [.l 0, .d (.int f)]) S fun w S' => ∃ d, w = .d d ∧ GV f d ∧ WS (N + 60) S' T := by
  rw [r__law_valve]
  have hc : c__law_valve = [
    .par [4, 5] [.call 44 [.var 0, .cI 7], .call 54 [.var 0]],
    .iff (.cmp .eq (.var 4) (.cI 0)) [.set 5 (.tup [.cI 0, .cI 0])] [],
    .iff (.or [.cmp .eq (.var 4) (.cI 1), .cmp .eq (.var 4) (.cI 2)]) [.par [9, 10] [.call 58 [.var 0, .var 1], .bin .add (.cI 1) (.call 44 [.var 0, .cI 3])], .set 5 (.tup [.bin .mul (.var 10) (.idx (.var 9) (.cI 0)), .bin .mul (.var 10) (.idx (.var 9) (.cI 1))])] []] ++ vlR := rfl
  rw [hc]
  refine wp_finD h ?_
  generalize hR : vlR = R
  simp only [List.cons_append, List.nil_append]
  have hfb : Bd f 2 := ⟨by omega⟩
  simp
  refine wp_mono (e_draw (k + 3) (n := 7) (by decide) (by decide) (by omega) h) ?_
  rintro _ S1 ⟨v, rfl, hv0, hv1, h1⟩
  simp
  refine wp_mono (l_vector k (by omega) h1) ?_
  rintro _ S2 ⟨_, rfl, ⟨x, y, rfl, hx, hy, hnz⟩, h2⟩
  subst hR
  have fin_ : ∀ {x y : Int} {w9 w10 : Option W} {S' : Sto}, x.natAbs < 2 ^ 92 → y.natAbs < 2 ^ 92 → WS (N + 30) S' T → wp (exSs (sm (k + 4)) vlR [some (.l 0), some (.d (.int f)), none, none, some (.d (.int v)), some (.d (V2 x y)), none, none, none, w9, w10]) S' fun g S' => ∃ d, g = .rt (.d d) ∧ (∃ L, WS (N + 60) S' (T ++ L)) ∧ GV f d := by
    intro x y w9 w10 S' hx hy hs
    refine wp_mono (valve_rest k hf hf3 (by omega) hx hy _ w9 w10 hs) ?_
    rintro g S3 ⟨d, L, rfl, h3, h4⟩
    exact ⟨d, rfl, ⟨L, h3.mono (by omega)⟩, h4⟩
  generalize hR : vlR = R at *
  by_cases hs0 : v = 0
  · subst hs0
    simp
    exact fin_ (by decide) (by decide) (h2.mono (by omega))
  by_cases hs1 : v = 1 ∨ v = 2
  · simp [hs0, hs1]
    refine wp_mono (l_whole_way k hf hf3 (by omega) h2) ?_
    rintro _ S3 ⟨_, rfl, ⟨p, q, m, rfl, hp, hq, hm, hmm⟩, h3⟩
    simp
    refine wp_mono (e_draw (k + 3) (n := 3) (by decide) (by decide) (by omega) h3) ?_
    rintro _ S4 ⟨z, rfl, h9, h10, h11⟩
    have hzb : Bd (1 + z) 2 := ⟨by omega⟩
    have hpb : Bd p 90 := ⟨hp⟩
    have hqb : Bd q 90 := ⟨hq⟩
    have m1 : o2 .mul (.int (1 + z)) (.int p) = some (.int ((1 + z) * p)) := o2_mul_ (by decide)
    have m2 : o2 .mul (.int (1 + z)) (.int q) = some (.int ((1 + z) * q)) := o2_mul_ (by decide)
    simp [m1, m2]
    exact fin_ ((bd_mul (h := hzb) (k := hpb)).h) ((bd_mul (h := hzb) (k := hqb)).h) (h11.mono (by omega))
  · have hs2 : ¬ v = 1 := fun z => hs1 (.inl z)
    have hs3 : ¬ v = 2 := fun z => hs1 (.inr z)
    simp [hs0, hs2, hs3]
    exact fin_ (Nat.lt_trans hx (by decide)) (Nat.lt_trans hy (by decide)) (h2.mono (by omega))
end G20

namespace G20
open PySem PySem.Spec PyProof.Rows L2 DL
variable {f a b sh xh sc xc port : Int}
def Plan (d : PyData) : Prop := ∃ (s1 s2 : Str) (lev : Int) (r : Bool), d = .tuple [.str s1, .str s2, .int lev, .bool r] ∧ lev.natAbs < 2 ^ 96
theorem l_plans (k : Nat) (h1 : sh.natAbs < 2 ^ 96) (h2 : xh.natAbs < 2 ^ 96) (h3 : sc.natAbs < 2 ^ 96) (h4 : xc.natAbs < 2 ^ 96) : ∃ ps, (sm (k + 1)).call 62 [.d (Vd f a b sh xh sc xc port)] = re (.d (.list ps)) ∧ ps.length = 8 ∧ ∀ p ∈ ps, Plan p := by
  rw [r__law_plans, c__law_plans]
  refine ⟨[.tuple [.str "head", .str "admission", .int sh, .bool true], .tuple [.str "head", .str "cutoff", .int sh, .bool false], .tuple [.str "head", .str "release", .int (0 - xh), .bool false], .tuple [.str "head", .str "compression", .int (0 - xh), .bool true], .tuple [.str "crank", .str "admission", .int (0 - sc), .bool false], .tuple [.str "crank", .str "cutoff", .int (0 - sc), .bool true], .tuple [.str "crank", .str "release", .int xc, .bool true], .tuple [.str "crank", .str "compression", .int xc, .bool false]], ?_, rfl, ?_⟩
  · simp
  · intro p hp
    simp only [List.mem_cons, List.not_mem_nil, or_false] at hp
    rcases hp with rfl | rfl | rfl | rfl | rfl | rfl | rfl | rfl <;> exact ⟨_, _, _, _, rfl, by omega⟩
theorem gcdL_neg (a b l : Int) : gcdL [0 - a, 0 - b, 0 - l] = gcdL [a, b, l] := by
  unfold gcdL
  simp
theorem ang_neg {f a b l : Int} (h : Ang f a b l) : Ang f (0 - a) (0 - b) (0 - l) := by
  refine ⟨h.f1, h.f3, by rw [gcdL_neg]; exact h.g, ?_⟩
  have := h.n
  have e1 : (0 - l) * (0 - l) = l * l := by grind
  have e2 : (0 - a) * (0 - a) + f * (0 - b) * (0 - b) = a * a + f * b * b := by grind
  rw [e1, e2]
  exact this
/-- an event: its third is an angle -/
def Evt (f : Int) (d : PyData) : Prop := ∃ x y g : PyData, d = .tuple [x, y, g] ∧ GA f g
theorem set_last (S : Sto) (xs ys : List PyData) : (S ++ [xs]).set S.length ys = S ++ [ys] := by simp
theorem l_events (k : Nat) (hf : 1 ≤ f) (hf3 : f ≤ 3) (ha : a.natAbs < 2 ^ 96) (hb : b.natAbs < 2 ^ 96) (h1 : sh.natAbs < 2 ^ 96) (h2 : xh.natAbs < 2 ^ 96) (h3 : sc.natAbs < 2 ^ 96) (h4 : xc.natAbs < 2 ^ 96) (S : Sto) :
    wp ((sm (k + 3)).call 63 [.d (Vd f a b sh xh sc xc port)]) S fun w S' => S' = S ∧ ∃ es, w = .d (.list es) ∧ es.length ≤ 8 ∧ ∀ e ∈ es, Evt f e := by
  have hfb : Bd f 2 := ⟨by omega⟩
  have hab : Bd a 96 := ⟨ha⟩
  have hbb : Bd b 96 := ⟨hb⟩
  rw [r__law_events, c__law_events]
  obtain ⟨ps, hps, hpl, hpp⟩ := l_plans (k + 1) (f := f) (a := a) (b := b) (port := port) h1 h2 h3 h4
  refine wp_fin (wp_mono (Q := fun g S' => ∃ es, g = .rt (.l S.length) ∧ S' = S ++ [es] ∧ es.length ≤ 8 ∧ ∀ e ∈ es, Evt f e) ?_ ?_)
  · simp [ex_fors, hps]
    refine wp_newL ?_
    refine wp_for (fun ys ρ S' => ∃ (w4 w5 w6 w7 w8 w9 w10 : Option W) (es : List PyData), es.length + ys.length ≤ 8 ∧ (∀ e ∈ es, Evt f e) ∧ (∀ y ∈ ys, Plan y) ∧ S' = S ++ [es] ∧ ρ = [some (.d (Vd f a b sh xh sc xc port)), some (.d (.int f)), some (.d (V2 a b)), some (.l S.length), w4, w5, w6, w7, w8, w9, w10]) (xs := ps) (g := []) rfl (by show ps.length ≤ 100000; omega) ⟨none, none, none, none, none, none, none, [], by simp [hpl], by simp, hpp, rfl, rfl⟩ (fun _ _ _ _ j hj => by cases hj) ?_ ?_
    · rintro ρ' S' ⟨w4, w5, w6, w7, w8, w9, w10, es, h5, h6, _, rfl, rfl⟩
      simp
      exact ⟨by simpa using h5, h6⟩
    · rintro x ys ρ' S' ⟨w4, w5, w6, w7, w8, w9, w10, es, h5, h6, h7, rfl, rfl⟩
      obtain ⟨s1, s2, lev, r, rfl, hl⟩ := h7 x List.mem_cons_self
      have h7' : ∀ y ∈ ys, Plan y := fun y hy => h7 y (List.mem_cons_of_mem _ hy)
      have hlb : Bd lev 96 := ⟨hl⟩
      by_cases hc : lev * lev < a * a + f * b * b
      · obtain ⟨p, q, l, e1, e2, e3, e4, e5⟩ := l_red3 k ha hb hl (by decide) hf hf3 hc
        simp [l_norm, hc, e1]
        refine wp_app (j := S.length) (by simp) ?_
        have hga := ga_of e2 e3 e4 e5 (by decide)
        have hga2 := ga_of (ang_neg e2) (w := 96) (by omega) (by omega) (by omega) (by decide)
        have happ : ∀ e : PyData, Evt f e → ∀ e' ∈ es ++ [e], Evt f e' := fun e he e' h => by
          rcases List.mem_append.mp h with q | q
          · exact h6 e' q
          · obtain rfl : e' = e := by simpa using q
            exact he
        have hlen : ∀ e : PyData, (es ++ [e]).length + ys.length ≤ 8 := fun e => by simp at h5 ⊢; omega
        have hes : es.length < 1000 := by simp at h5; omega
        cases r with
        | true =>
          simp
          exact ⟨hes, _, _, _, _, _, _, _, _, hlen _, happ _ ⟨_, _, _, rfl, hga⟩, h7', rfl, rfl, rfl, rfl, rfl, rfl, rfl, rfl⟩
        | false =>
          simp only [Int.zero_sub] at hga2
          simp
          exact ⟨hes, _, _, _, _, _, _, _, _, hlen _, happ _ ⟨_, _, _, rfl, hga2⟩, h7', rfl, rfl, rfl, rfl, rfl, rfl, rfl, rfl⟩
      · simp [l_norm, hc]
        exact ⟨_, _, _, _, _, _, _, es, by simp at h5; omega, h6, h7', rfl, rfl, rfl, rfl, rfl, rfl, rfl, rfl⟩
  · rintro g S' ⟨es, rfl, rfl, h5, h6⟩
    refine ⟨Nat.le_refl _, es, by simp, by simp, es, rfl, h5, h6⟩
end G20

namespace G20
open PySem PySem.Spec PyProof.Rows L2 DL
variable {f a b sh xh sc xc port : Int} {af aa ab al : Int} {e : Str} {n m : Int}
theorem sorted_ok {ss ys : List Str} (hp : ys.Perm ss) (hs : sortedS ys = true) (hu : ∀ zs : List Str, zs.Perm ss → sortedS zs = true → zs = ys) (hl : ss.length < 64) : b1 .sortedS [.list (ss.map PyData.str)] = some (.list (ys.map PyData.str)) := by
  have hs1 : ∀ l : List Str, strsOf (l.map PyData.str) = some l := by
    intro l
    induction l with
    | nil => rfl
    | cons x l ih => simp [strsOf, ih]
  have hex : ∃ ys : List Str, ys.Perm ss ∧ sortedS ys = true ∧ ∀ zs : List Str, zs.Perm ss → sortedS zs = true → zs = ys := ⟨ys, hp, hs, hu⟩
  show (match strsOf (ss.map PyData.str) with
    | some ss => _
    | none => none) = _
  rw [hs1]
  show (if ss.length < 64 then _ else none) = _
  rw [if_pos hl, dif_pos hex]
  have h := hex.choose_spec
  rw [hu _ h.1 h.2.1]
theorem perm_two {x y : Str} {zs : List Str} (h : zs.Perm [x, y]) : zs = [x, y] ∨ zs = [y, x] := by
  have hl := h.length_eq
  match zs, hl with
  | [p, q], _ =>
    have hp : p ∈ [x, y] := h.mem_iff.mp (by simp)
    have hq : q ∈ [x, y] := h.mem_iff.mp (by simp)
    have hx : x ∈ [p, q] := h.mem_iff.mpr (by simp)
    have hy : y ∈ [p, q] := h.mem_iff.mpr (by simp)
    simp only [List.mem_cons, List.not_mem_nil, or_false] at hp hq hx hy
    rcases hp with rfl | rfl
    · rcases hy with rfl | rfl
      · rcases hq with rfl | rfl <;> simp
      · exact .inl rfl
    · rcases hx with rfl | rfl
      · rcases hq with rfl | rfl <;> simp
      · exact .inr rfl
theorem sorted_le {x y : Str} (h1 : sortedS [x, y] = true) (h2 : x = y ∨ sortedS [y, x] = false) : b1 .sortedS [.list [.str x, .str y]] = some (.list [.str x, .str y]) ∧ b1 .sortedS [.list [.str y, .str x]] = some (.list [.str x, .str y]) := by
  have hu : ∀ zs : List Str, zs.Perm [x, y] → sortedS zs = true → zs = [x, y] := fun zs hz hs => by
    rcases perm_two hz with e | e
    · exact e
    · subst e
      rcases h2 with h2 | h2
      · rw [h2]
      · rw [h2] at hs; cases hs
  exact ⟨sorted_ok (ss := [x, y]) (ys := [x, y]) (List.Perm.refl _) h1 hu (by show 2 < 64; decide), sorted_ok (ss := [y, x]) (ys := [x, y]) (List.Perm.swap _ _ _) h1 (fun zs hz => hu zs (hz.trans (List.Perm.swap _ _ _))) (by show 2 < 64; decide)⟩
theorem st_both_both : sortedS [("both" : Str), "both"] = true := by decide +kernel
theorem st_both_closed : sortedS [("both" : Str), "closed"] = true := by decide +kernel
theorem st_both_exhaust : sortedS [("both" : Str), "exhaust"] = true := by decide +kernel
theorem st_both_steam : sortedS [("both" : Str), "steam"] = true := by decide +kernel
theorem st_closed_both : sortedS [("closed" : Str), "both"] = false := by decide +kernel
theorem st_closed_closed : sortedS [("closed" : Str), "closed"] = true := by decide +kernel
theorem st_closed_exhaust : sortedS [("closed" : Str), "exhaust"] = true := by decide +kernel
theorem st_closed_steam : sortedS [("closed" : Str), "steam"] = true := by decide +kernel
theorem st_exhaust_both : sortedS [("exhaust" : Str), "both"] = false := by decide +kernel
theorem st_exhaust_closed : sortedS [("exhaust" : Str), "closed"] = false := by decide +kernel
theorem st_exhaust_exhaust : sortedS [("exhaust" : Str), "exhaust"] = true := by decide +kernel
theorem st_exhaust_steam : sortedS [("exhaust" : Str), "steam"] = true := by decide +kernel
theorem st_steam_both : sortedS [("steam" : Str), "both"] = false := by decide +kernel
theorem st_steam_closed : sortedS [("steam" : Str), "closed"] = false := by decide +kernel
theorem st_steam_exhaust : sortedS [("steam" : Str), "exhaust"] = false := by decide +kernel
theorem st_steam_steam : sortedS [("steam" : Str), "steam"] = true := by decide +kernel
def mid (A B : Str) : Bool := (decide (A = "exhaust") && decide (B = "steam")) || (decide (A = "steam") && decide (B = "exhaust"))
def Srt (A B : Str) : Prop := ∃ C D : Str, b1 .sortedS [.list [.str A, .str B]] = some (.list [.str C, .str D]) ∧ c2 .eq (.list [.str C, .str D]) (.list [.str "exhaust", .str "steam"]) = some (mid A B)
theorem srt_both_both : Srt "both" "both" := ⟨"both", "both", (sorted_le st_both_both (.inl rfl)).1, by simp [c2, eqOk, SeqAt.shaped, PyData.canLay0, PyData.canLayAll0, PyData.depth, PyData.depthAll, PyData.eqv, PyData.eqvAll, mid]⟩
theorem srt_both_closed : Srt "both" "closed" := ⟨"both", "closed", (sorted_le st_both_closed (.inr st_closed_both)).1, by simp [c2, eqOk, SeqAt.shaped, PyData.canLay0, PyData.canLayAll0, PyData.depth, PyData.depthAll, PyData.eqv, PyData.eqvAll, mid]⟩
theorem srt_both_exhaust : Srt "both" "exhaust" := ⟨"both", "exhaust", (sorted_le st_both_exhaust (.inr st_exhaust_both)).1, by simp [c2, eqOk, SeqAt.shaped, PyData.canLay0, PyData.canLayAll0, PyData.depth, PyData.depthAll, PyData.eqv, PyData.eqvAll, mid]⟩
theorem srt_both_steam : Srt "both" "steam" := ⟨"both", "steam", (sorted_le st_both_steam (.inr st_steam_both)).1, by simp [c2, eqOk, SeqAt.shaped, PyData.canLay0, PyData.canLayAll0, PyData.depth, PyData.depthAll, PyData.eqv, PyData.eqvAll, mid]⟩
theorem srt_closed_both : Srt "closed" "both" := ⟨"both", "closed", (sorted_le st_both_closed (.inr st_closed_both)).2, by simp [c2, eqOk, SeqAt.shaped, PyData.canLay0, PyData.canLayAll0, PyData.depth, PyData.depthAll, PyData.eqv, PyData.eqvAll, mid]⟩
theorem srt_closed_closed : Srt "closed" "closed" := ⟨"closed", "closed", (sorted_le st_closed_closed (.inl rfl)).1, by simp [c2, eqOk, SeqAt.shaped, PyData.canLay0, PyData.canLayAll0, PyData.depth, PyData.depthAll, PyData.eqv, PyData.eqvAll, mid]⟩
theorem srt_closed_exhaust : Srt "closed" "exhaust" := ⟨"closed", "exhaust", (sorted_le st_closed_exhaust (.inr st_exhaust_closed)).1, by simp [c2, eqOk, SeqAt.shaped, PyData.canLay0, PyData.canLayAll0, PyData.depth, PyData.depthAll, PyData.eqv, PyData.eqvAll, mid]⟩
theorem srt_closed_steam : Srt "closed" "steam" := ⟨"closed", "steam", (sorted_le st_closed_steam (.inr st_steam_closed)).1, by simp [c2, eqOk, SeqAt.shaped, PyData.canLay0, PyData.canLayAll0, PyData.depth, PyData.depthAll, PyData.eqv, PyData.eqvAll, mid]⟩
theorem srt_exhaust_both : Srt "exhaust" "both" := ⟨"both", "exhaust", (sorted_le st_both_exhaust (.inr st_exhaust_both)).2, by simp [c2, eqOk, SeqAt.shaped, PyData.canLay0, PyData.canLayAll0, PyData.depth, PyData.depthAll, PyData.eqv, PyData.eqvAll, mid]⟩
theorem srt_exhaust_closed : Srt "exhaust" "closed" := ⟨"closed", "exhaust", (sorted_le st_closed_exhaust (.inr st_exhaust_closed)).2, by simp [c2, eqOk, SeqAt.shaped, PyData.canLay0, PyData.canLayAll0, PyData.depth, PyData.depthAll, PyData.eqv, PyData.eqvAll, mid]⟩
theorem srt_exhaust_exhaust : Srt "exhaust" "exhaust" := ⟨"exhaust", "exhaust", (sorted_le st_exhaust_exhaust (.inl rfl)).1, by simp [c2, eqOk, SeqAt.shaped, PyData.canLay0, PyData.canLayAll0, PyData.depth, PyData.depthAll, PyData.eqv, PyData.eqvAll, mid]⟩
theorem srt_exhaust_steam : Srt "exhaust" "steam" := ⟨"exhaust", "steam", (sorted_le st_exhaust_steam (.inr st_steam_exhaust)).1, by simp [c2, eqOk, SeqAt.shaped, PyData.canLay0, PyData.canLayAll0, PyData.depth, PyData.depthAll, PyData.eqv, PyData.eqvAll, mid]⟩
theorem srt_steam_both : Srt "steam" "both" := ⟨"both", "steam", (sorted_le st_both_steam (.inr st_steam_both)).2, by simp [c2, eqOk, SeqAt.shaped, PyData.canLay0, PyData.canLayAll0, PyData.depth, PyData.depthAll, PyData.eqv, PyData.eqvAll, mid]⟩
theorem srt_steam_closed : Srt "steam" "closed" := ⟨"closed", "steam", (sorted_le st_closed_steam (.inr st_steam_closed)).2, by simp [c2, eqOk, SeqAt.shaped, PyData.canLay0, PyData.canLayAll0, PyData.depth, PyData.depthAll, PyData.eqv, PyData.eqvAll, mid]⟩
theorem srt_steam_exhaust : Srt "steam" "exhaust" := ⟨"exhaust", "steam", (sorted_le st_exhaust_steam (.inr st_steam_exhaust)).2, by simp [c2, eqOk, SeqAt.shaped, PyData.canLay0, PyData.canLayAll0, PyData.depth, PyData.depthAll, PyData.eqv, PyData.eqvAll, mid]⟩
theorem srt_steam_steam : Srt "steam" "steam" := ⟨"steam", "steam", (sorted_le st_steam_steam (.inl rfl)).1, by simp [c2, eqOk, SeqAt.shaped, PyData.canLay0, PyData.canLayAll0, PyData.depth, PyData.depthAll, PyData.eqv, PyData.eqvAll, mid]⟩
theorem srt (p q p' q' : Bool) : Srt (wordOf p q) (wordOf p' q') := by
  cases p <;> cases q <;> cases p' <;> cases q'
  · exact srt_closed_closed
  · exact srt_closed_exhaust
  · exact srt_closed_steam
  · exact srt_closed_both
  · exact srt_exhaust_closed
  · exact srt_exhaust_exhaust
  · exact srt_exhaust_steam
  · exact srt_exhaust_both
  · exact srt_steam_closed
  · exact srt_steam_exhaust
  · exact srt_steam_steam
  · exact srt_steam_both
  · exact srt_both_closed
  · exact srt_both_exhaust
  · exact srt_both_steam
  · exact srt_both_both
theorem mv_head (w : Int) : st1 af aa ab al (sdOf "head" (m * a) (m * b) (m * sh - w * n) (m * xh + w * n) (m * sc + w * n) (m * xc - w * n)) = uS af aa ab al (sdOf "head" a b sh xh sc xc) n m (-w) ∧
    st2 af aa ab al (sdOf "head" (m * a) (m * b) (m * sh - w * n) (m * xh + w * n) (m * sc + w * n) (m * xc - w * n)) = uX af aa ab al (sdOf "head" a b sh xh sc xc) n m w := by
  simp only [st1, st2, uS, uX, sdOf, if_true]
  constructor <;> congr 1 <;> grind
theorem mv_crank (w : Int) : st1 af aa ab al (sdOf "crank" (m * a) (m * b) (m * sh - w * n) (m * xh + w * n) (m * sc + w * n) (m * xc - w * n)) = uS af aa ab al (sdOf "crank" a b sh xh sc xc) n m w ∧
    st2 af aa ab al (sdOf "crank" (m * a) (m * b) (m * sh - w * n) (m * xh + w * n) (m * sc + w * n) (m * xc - w * n)) = uX af aa ab al (sdOf "crank" a b sh xh sc xc) n m (-w) := by
  have hc : ¬ (("crank" : Str) = "head") := by simp
  simp only [st1, st2, uS, uX, sdOf, if_neg hc]
  constructor <;> congr 1 <;> grind
theorem l_state' (k : Nat) [A : AnB af aa ab al] [Bd a 100] [Bd b 100] [Bd sh 103] [Bd xh 103] [Bd sc 103] [Bd xc 103] (hw : 0 < 1) (h : IsEnd e) :
    (sm (k + 4)).call 61 [.d (Vd f a b sh xh sc xc port), .d (.str e), .d (A4 af aa ab al)] = re (.d (.str (wordOf (st1 af aa ab al (sdOf e a b sh xh sc xc)) (st2 af aa ab al (sdOf e a b sh xh sc xc))))) := by
  have := A.f; have := A.a; have := A.b; have := A.l
  rw [r__law_state, c__law_state]
  rcases h with rfl | rfl
  · simp (disch := omega) [l_side, wordOf, st1, st2, sdOf, up_neg]
    unfold up
    by_cases h1 : 0 < sg af aa ab al a b sh <;> by_cases h2 : sg af aa ab al a b (-xh) < 0 <;> simp [h1, h2]
  · simp (disch := omega) [l_side, wordOf, st1, st2, sdOf, up_neg]
    unfold up
    by_cases h1 : 0 < sg af aa ab al a b xc <;> by_cases h2 : sg af aa ab al a b (-sc) < 0 <;> simp [h1, h2]
/-- the states within the slack -/
def within (A B : Str) (bl : Prop) [Decidable bl] : List PyData := [PyData.str A, .str B] ++ (if mid A B = true then [PyData.str (if bl then "both" else "closed")] else [])
theorem l_within (k : Nat) [A : AnB af aa ab al] [Bd a 96] [Bd b 96] [Bd sh 96] [Bd xh 96] [Bd sc 96] [Bd xc 96] [Bd n 100] [Bd m 4] (h : IsEnd e) :
    ∃ A B : Str, (sm (k + 5)).call 66 [.d (Vd f a b sh xh sc xc port), .d (.str e), .d (A4 af aa ab al), .d (V2 n m)] = re (.d (.list (within A B (blows (sdOf e a b sh xh sc xc))))) ∧
      ((A = wordOf (uS af aa ab al (sdOf e a b sh xh sc xc) n m 1) (uX af aa ab al (sdOf e a b sh xh sc xc) n m (-1)) ∧ B = wordOf (uS af aa ab al (sdOf e a b sh xh sc xc) n m (-1)) (uX af aa ab al (sdOf e a b sh xh sc xc) n m 1)) ∨
       (B = wordOf (uS af aa ab al (sdOf e a b sh xh sc xc) n m 1) (uX af aa ab al (sdOf e a b sh xh sc xc) n m (-1)) ∧ A = wordOf (uS af aa ab al (sdOf e a b sh xh sc xc) n m (-1)) (uX af aa ab al (sdOf e a b sh xh sc xc) n m 1))) := by
  have := A.f; have := A.a; have := A.b; have := A.l
  rw [r__law_states_within, c__law_states_within]
  have H : ∀ w : Int, Bd w 1 → evE (sm (k + 4)) (.call 61 [.call 64 [.var 0, .tup [.bin .mul (.var 11) (.idx (.var 3) (.cI 0)), .idx (.var 3) (.cI 1)]], .var 1, .var 2]) [some (.d (Vd f a b sh xh sc xc port)), some (.d (.str e)), some (.d (A4 af aa ab al)), some (.d (V2 n m)), none, none, none, none, none, none, none, some (.d (.int w))] =
      re (.d (.str (wordOf (st1 af aa ab al (sdOf e (m * a) (m * b) (m * sh - w * n) (m * xh + w * n) (m * sc + w * n) (m * xc - w * n))) (st2 af aa ab al (sdOf e (m * a) (m * b) (m * sh - w * n) (m * xh + w * n) (m * sc + w * n) (m * xc - w * n)))))) := by
    intro w hw
    have h1 := l_moved (k + 3) (f := f) (a := a) (b := b) (sh := sh) (xh := xh) (sc := sc) (xc := xc) (port := port) (n := w * n) (m := m) (w0 := 0) (by decide)
    have b1 : Bd (m * sh - w * n) 103 := (inferInstance : Bd (m * sh - w * n) (max (4 + 96) (1 + 100) + 1)).mono (by decide)
    have b2 : Bd (m * xh + w * n) 103 := (inferInstance : Bd (m * xh + w * n) (max (4 + 96) (1 + 100) + 1)).mono (by decide)
    have b3 : Bd (m * sc + w * n) 103 := (inferInstance : Bd (m * sc + w * n) (max (4 + 96) (1 + 100) + 1)).mono (by decide)
    have b4 : Bd (m * xc - w * n) 103 := (inferInstance : Bd (m * xc - w * n) (max (4 + 96) (1 + 100) + 1)).mono (by decide)
    have b5 : Bd (m * a) 100 := (inferInstance : Bd (m * a) (4 + 96)).mono (by decide)
    have b6 : Bd (m * b) 100 := (inferInstance : Bd (m * b) (4 + 96)).mono (by decide)
    have h2 := l_state' k (f := f) (a := m * a) (b := m * b) (sh := m * sh - w * n) (xh := m * xh + w * n) (sc := m * sc + w * n) (xc := m * xc - w * n) (port := port) (af := af) (aa := aa) (ab := ab) (al := al) (by decide) h
    have m1 : o2 .mul (.int w) (.int n) = some (.int (w * n)) := o2_mul_ (by decide)
    simp [m1, h1, h2]
  have hc := cm2 (Γ := sm (k + 4)) (p := .nm 11) (e := .call 61 [.call 64 [.var 0, .tup [.bin .mul (.var 11) (.idx (.var 3) (.cI 0)), .idx (.var 3) (.cI 1)]], .var 1, .var 2]) (ρ0 := [some (.d (Vd f a b sh xh sc xc port)), some (.d (.str e)), some (.d (A4 af aa ab al)), some (.d (V2 n m)), none, none, none, none, none, none, none, none]) (x := .int (-1)) (y := .int 1) (by rw [asg_nm]; rfl) (H (-1) ⟨by decide⟩) (by rw [asg_nm]; rfl) (H 1 ⟨by decide⟩)
  rcases h with rfl | rfl
  · rw [(mv_head (af := af) (aa := aa) (ab := ab) (al := al) (a := a) (b := b) (sh := sh) (xh := xh) (sc := sc) (xc := xc) (n := n) (m := m) (-1)).1, (mv_head (af := af) (aa := aa) (ab := ab) (al := al) (a := a) (b := b) (sh := sh) (xh := xh) (sc := sc) (xc := xc) (n := n) (m := m) (-1)).2, (mv_head (af := af) (aa := aa) (ab := ab) (al := al) (a := a) (b := b) (sh := sh) (xh := xh) (sc := sc) (xc := xc) (n := n) (m := m) 1).1, (mv_head (af := af) (aa := aa) (ab := ab) (al := al) (a := a) (b := b) (sh := sh) (xh := xh) (sc := sc) (xc := xc) (n := n) (m := m) 1).2, Int.neg_neg] at hc
    refine ⟨_, _, ?_, .inl ⟨rfl, rfl⟩⟩
    obtain ⟨C, D, hs, he⟩ := srt (uS af aa ab al (sdOf "head" a b sh xh sc xc) n m 1) (uX af aa ab al (sdOf "head" a b sh xh sc xc) n m (-1)) (uS af aa ab al (sdOf "head" a b sh xh sc xc) n m (-1)) (uX af aa ab al (sdOf "head" a b sh xh sc xc) n m 1)
    have hbl : blows (sdOf "head" a b sh xh sc xc) ↔ sh + xh < 0 := by simp [blows, sdOf]
    simp [ev_cmpr, wipeE, hc, hs, he, within, hbl]
    generalize mid _ _ = mm
    cases mm <;> simp
  · rw [(mv_crank (af := af) (aa := aa) (ab := ab) (al := al) (a := a) (b := b) (sh := sh) (xh := xh) (sc := sc) (xc := xc) (n := n) (m := m) (-1)).1, (mv_crank (af := af) (aa := aa) (ab := ab) (al := al) (a := a) (b := b) (sh := sh) (xh := xh) (sc := sc) (xc := xc) (n := n) (m := m) (-1)).2, (mv_crank (af := af) (aa := aa) (ab := ab) (al := al) (a := a) (b := b) (sh := sh) (xh := xh) (sc := sc) (xc := xc) (n := n) (m := m) 1).1, (mv_crank (af := af) (aa := aa) (ab := ab) (al := al) (a := a) (b := b) (sh := sh) (xh := xh) (sc := sc) (xc := xc) (n := n) (m := m) 1).2, Int.neg_neg] at hc
    refine ⟨_, _, ?_, .inr ⟨rfl, rfl⟩⟩
    obtain ⟨C, D, hs, he⟩ := srt (uS af aa ab al (sdOf "crank" a b sh xh sc xc) n m (-1)) (uX af aa ab al (sdOf "crank" a b sh xh sc xc) n m 1) (uS af aa ab al (sdOf "crank" a b sh xh sc xc) n m 1) (uX af aa ab al (sdOf "crank" a b sh xh sc xc) n m (-1))
    have hbl : blows (sdOf "crank" a b sh xh sc xc) ↔ sc + xc < 0 := by simp [blows, sdOf]
    simp [ev_cmpr, wipeE, hc, hs, he, within, hbl]
    generalize mid _ _ = mm
    cases mm <;> simp
end G20

namespace G20
open PySem PySem.Spec PyProof.Rows L2 DL
variable {N : Nat} {S T : Sto} {f a b sh xh sc xc port : Int} {af aa ab al : Int} {e t : Str} {n m : Int}
theorem l_red2 (k : Nat) {p q : Int} {w : Nat} (hp : p.natAbs < 2 ^ w) (hq : q.natAbs < 2 ^ 4) (hw : w ≤ 1000) (h4 : 4 ≤ w) (hp0 : 0 ≤ p) (hq0 : 0 < q) :
    ∃ n m : Int, (sm (k + 2)).call 52 [.d (V2 p q)] = re (.d (V2 n m)) ∧ Slk n m ∧ n.natAbs < 2 ^ w ∧ m.natAbs < 2 ^ 4 := by
  have hqw : q.natAbs < 2 ^ w := Nat.lt_of_lt_of_le hq (pw_le h4)
  have hg : 0 < gcdL [p, q] := by
    rcases Nat.eq_zero_or_pos (gcdL [p, q]) with h | h
    · have h2 := gcdL_zero h q (by simp)
      omega
    · exact h
  have h := l_reduced k [p, q] (w := w) (by
    intro x hx
    simp only [List.mem_cons, List.not_mem_nil, or_false] at hx
    rcases hx with rfl | rfl
    · exact ⟨hp⟩
    · exact ⟨hqw⟩) hw (by simp) hg
  have e0 := redL_eq hg
  have e1 := redL_one hg
  generalize hgg : gcdL [p, q] = g at *
  have hr : redL [p, q] = [p / (g : Int), q / (g : Int)] := by unfold redL; rw [hgg]; rfl
  rw [hr] at h e0 e1
  simp only [List.map_cons, List.map_nil, List.cons.injEq, and_true] at h e0
  refine ⟨_, _, h, ⟨Int.ediv_nonneg hp0 (by omega), pos_of (a := (g : Int)) (by omega) (by rw [← e0.2]; exact hq0), ?_⟩, Nat.lt_of_le_of_lt div_le hp, Nat.lt_of_le_of_lt div_le hq⟩
  unfold gcdL at e1
  simpa using e1
/-- a good slack, as data -/
def GS (d : PyData) : Prop := ∃ n m : Int, d = V2 n m ∧ Slk n m ∧ n.natAbs < 2 ^ 100 ∧ m.natAbs < 2 ^ 4
theorem l_slack (k : Nat) (h1 : sh.natAbs < 2 ^ 96) (h2 : xh.natAbs < 2 ^ 96) (hN : N ≤ 50000) (h : WS N S T) : wp ((sm (k + 4)).call 65 [.l 0, .d (Vd f a b sh xh sc xc port)]) S fun w S' => ∃ d, w = .d d ∧ GS d ∧ WS (N + 6) S' T := by
  rw [r__law_slack, c__law_slack]
  refine wp_finD h ?_
  simp
  refine wp_mono (l_number k (by omega) h) ?_
  rintro _ S1 ⟨_, rfl, ⟨x, rfl, hx⟩, hs1⟩
  simp
  refine wp_mono (e_draw (k + 2) (n := 5) (by decide) (by decide) (by omega) hs1) ?_
  rintro _ S2 ⟨v, rfl, hv0, hv1, hs2⟩
  simp
  refine wp_mono (l_pick (k + 1) (by simp) (by simp) (by omega) hs2) ?_
  rintro _ S3 ⟨d, rfl, hd, hs3⟩
  have hd : ∃ p q : Int, d = V2 p q ∧ 0 ≤ p ∧ p.natAbs < 2 ^ 100 ∧ 0 < q ∧ q.natAbs < 2 ^ 4 := by
    simp only [List.mem_cons, List.not_mem_nil, or_false] at hd
    rcases hd with rfl | rfl | rfl | rfl | rfl <;> exact ⟨_, _, rfl, by omega, by omega, by omega, by omega⟩
  obtain ⟨p, q, rfl, hp0, hp, hq0, hq⟩ := hd
  obtain ⟨n, m, e1, e2, e3, e4⟩ := l_red2 (k + 1) hp hq (by decide) (by decide) hp0 hq0
  rw [e1]
  simp
  exact ⟨⟨[], ws_nil (hs3.mono (by omega))⟩, n, m, rfl, e2, e3, e4⟩
/-! ### what is held against what is due -/
def sureV (t : Str) (s1 sm x1 xm : Bool) : Bool := (if t = "steam" ∨ t = "both" then s1 else !sm) && (if t = "exhaust" ∨ t = "both" then x1 else !xm)
def possV (t : Str) (s1 sm x1 xm bl : Bool) : Bool := if (t = "both" ∧ bl = false) ∨ (t = "closed" ∧ bl = true) then false else (if t = "steam" ∨ t = "both" then sm else !s1) && (if t = "exhaust" ∨ t = "both" then xm else !x1)
def dueE (A B t : Str) : Bool := decide (A = t ∧ B = t)
def dueI (A B t : Str) (bl : Bool) : Bool := decide (A = t) || (decide (B = t) || (mid A B && decide ((if bl = true then "both" else "closed" : Str) = t)))
theorem key (ht : IsWord t) (s1 sm x1 xm bl : Bool) (h1 : s1 = true → sm = true) (h2 : x1 = true → xm = true) (h3 : bl = false → s1 = true → xm = true → False) (h4 : bl = false → sm = true → x1 = true → False)
    (h5 : bl = true → s1 = false → xm = false → False) (h6 : bl = true → sm = false → x1 = false → False) :
    sureV t s1 sm x1 xm = dueE (wordOf s1 xm) (wordOf sm x1) t ∧ possV t s1 sm x1 xm bl = dueI (wordOf s1 xm) (wordOf sm x1) t bl ∧
    sureV t s1 sm x1 xm = dueE (wordOf sm x1) (wordOf s1 xm) t ∧ possV t s1 sm x1 xm bl = dueI (wordOf sm x1) (wordOf s1 xm) t bl := by
  rcases ht with rfl | rfl | rfl | rfl <;> cases s1 <;> cases sm <;> cases x1 <;> cases xm <;> cases bl <;> simp_all [sureV, possV, dueE, dueI, wordOf, mid]
theorem word_ok (s x : Bool) : IsWord (wordOf s x) := by
  cases s <;> cases x <;> simp [wordOf, IsWord]
theorem word_str {A : Str} (h : IsWord A) : PyData.strOk A = true := by
  rcases h with rfl | rfl | rfl | rfl <;> simp
theorem due_eq {A B : Str} (hA : IsWord A) (hB : IsWord B) (ht : IsWord t) (bl : Prop) [Decidable bl] : c2 .eq (.list (within A B bl)) (.list [.str t, .str t]) = some (dueE A B t) := by
  unfold within
  rcases hA with rfl | rfl | rfl | rfl <;> rcases hB with rfl | rfl | rfl | rfl <;> rcases ht with rfl | rfl | rfl | rfl <;> by_cases hb : bl <;> simp [hb, mid, c2, eqOk, SeqAt.shaped, PyData.canLay0, PyData.canLayAll0, PyData.depth, PyData.depthAll, PyData.eqv, PyData.eqvAll, dueE]
theorem due_in {A B : Str} (hA : IsWord A) (hB : IsWord B) (ht : IsWord t) (bl : Prop) [Decidable bl] : c2 .inn (.str t) (.list (within A B bl)) = some (dueI A B t (decide bl)) := by
  unfold within
  rcases hA with rfl | rfl | rfl | rfl <;> rcases hB with rfl | rfl | rfl | rfl <;> rcases ht with rfl | rfl | rfl | rfl <;> by_cases hb : bl <;> simp [hb, mid, c2, eqOk, SeqAt.shaped, PyData.canLay0, PyData.canLayAll0, PyData.depth, PyData.depthAll, PyData.eqv, PyData.eqvAll, dueI]
theorem rpr2 (p q : Bool) : reprOk (.list [.bool p, .bool q]) = true := by
  cases p <;> cases q <;> decide +kernel
theorem lies_sF (k : Nat) (s : Sd) (t : Str) (g : Int) {w : Nat} [A : AnB af aa ab al] [SdB s w] (hw : w ≤ 96) [Bd n 100] [Bd m 4] (hg : g = 1 ∨ g = -1) :
    (sm (k + 6)).call 33 [.d (sF s t n m g), .d (A4 af aa ab al)] = re (.d (.bool (if t = "steam" ∨ t = "both" then uS af aa ab al s n m g else !uS af aa ab al s n m (-g)))) := by
  have hgb : Bd g 1 := ⟨by omega⟩
  unfold sF lessT
  split
  · rw [e_lies_side (k + 1) _ _ _ (by omega)]; rfl
  · rw [e_lies_not k _ _ _ (by omega)]; rfl
theorem lies_sX (k : Nat) (s : Sd) (t : Str) (g : Int) {w : Nat} [A : AnB af aa ab al] [SdB s w] (hw : w ≤ 96) [Bd n 100] [Bd m 4] (hg : g = 1 ∨ g = -1) :
    (sm (k + 6)).call 33 [.d (sX s t n m g), .d (A4 af aa ab al)] = re (.d (.bool (if t = "exhaust" ∨ t = "both" then uX af aa ab al s n m g else !uX af aa ab al s n m (-g)))) := by
  have hgb : Bd g 1 := ⟨by omega⟩
  unfold sX lessT
  split
  · rw [e_lies_side (k + 1) _ _ _ (by omega)]; rfl
  · rw [e_lies_not k _ _ _ (by omega)]; rfl
theorem holds_sure (k : Nat) (s : Sd) (t : Str) {w : Nat} [A : AnB f aa ab al] (hA : Ang f aa ab al) [SdB s w] (hw : w ≤ 96) [Bd n 100] [Bd m 4] :
    (sm (k + 10)).call 34 [.d (.tuple [.int f, andT (sF s t n m 1) (sX s t n m 1)]), .d (A4 f aa ab al)] = re (.d (.bool (sureV t (uS f aa ab al s n m 1) (uS f aa ab al s n m (-1)) (uX f aa ab al s n m 1) (uX f aa ab al s n m (-1))))) :=
  e_holds k (tr_sure s t n m 1) hA (e_lies_and (k + 2) (lies_sF (k + 2) s t 1 hw (.inl rfl)) (lies_sX (k + 2) s t 1 hw (.inl rfl)))
theorem holds_poss (k : Nat) (s : Sd) (t : Str) {w : Nat} [A : AnB f aa ab al] (hA : Ang f aa ab al) [SdB s w] (hw : w ≤ 96) [Bd n 100] [Bd m 4] :
    (sm (k + 10)).call 34 [.d (.tuple [.int f, pT s t n m]), .d (A4 f aa ab al)] = re (.d (.bool (possV t (uS f aa ab al s n m 1) (uS f aa ab al s n m (-1)) (uX f aa ab al s n m 1) (uX f aa ab al s n m (-1)) (decide (blows s))))) := by
  refine e_holds k (tr_pT s t n m) hA ?_
  unfold pT possV
  by_cases hc : (t = "both" ∧ ¬ blows s) ∨ (t = "closed" ∧ blows s)
  · rw [if_pos hc, if_pos (by simpa using hc)]
    exact e_lies_nowhere (k + 7) _
  · rw [if_neg hc, if_neg (by simpa using hc)]
    exact e_lies_and (k + 2) (lies_sF (k + 2) s t (-1) hw (.inr rfl)) (lies_sX (k + 2) s t (-1) hw (.inr rfl))
end G20

namespace G20
open PySem PySem.Spec PyProof.Rows L2 DL
variable {N : Nat} {S T : Sto} {f a b sh xh sc xc port : Int} {e t : Str} {n m : Int}
abbrev bA : List Sx := [.set 16 (.call 66 [.var 1, .var 4, .var 15, .var 5]), .set 17 (.lst [.cmp .eq (.var 16) (.lst [.var 10, .var 10]), .cmp .inn (.var 10) (.var 16)]), .iff (.cmp .ne (.rpr (.lst [.call 34 [.var 13, .var 15], .call 34 [.var 14, .var 15]])) (.rpr (.var 17))) [.ret (.cB false)] []]
abbrev bS : List Sx := [.set 13 (.call 41 [.var 1, .var 4, .var 10, .var 5]), .set 14 (.callK 42 0 [3, 2, 1, 0] [.var 5, .var 10, .var 4, .var 1]), .iff (.or [.cmp .isnt (.call 31 [.var 13]) (.cB true), .cmp .isnt (.call 31 [.var 14]) (.cB true), .cmp .ne (.idx (.var 13) (.cI 0)) (.var 6), .cmp .ne (.idx (.var 14) (.cI 0)) (.var 6)]) [.ret (.cB false)] [], .fors (.nm 15) .seq [.var 2] [.set 16 (.call 66 [.var 1, .var 4, .var 15, .var 5]), .set 17 (.lst [.cmp .eq (.var 16) (.lst [.var 10, .var 10]), .cmp .inn (.var 10) (.var 16)]), .iff (.cmp .ne (.rpr (.lst [.call 34 [.var 13, .var 15], .call 34 [.var 14, .var 15]])) (.rpr (.var 17))) [.ret (.cB false)] []]]
abbrev bE : List Sx := [.fors (.nm 10) .seq [.tup [.cS "steam", .cS "exhaust", .cS "both", .cS "closed"]] [.set 13 (.call 41 [.var 1, .var 4, .var 10, .var 5]), .set 14 (.callK 42 0 [3, 2, 1, 0] [.var 5, .var 10, .var 4, .var 1]), .iff (.or [.cmp .isnt (.call 31 [.var 13]) (.cB true), .cmp .isnt (.call 31 [.var 14]) (.cB true), .cmp .ne (.idx (.var 13) (.cI 0)) (.var 6), .cmp .ne (.idx (.var 14) (.cI 0)) (.var 6)]) [.ret (.cB false)] [], .fors (.nm 15) .seq [.var 2] [.set 16 (.call 66 [.var 1, .var 4, .var 15, .var 5]), .set 17 (.lst [.cmp .eq (.var 16) (.lst [.var 10, .var 10]), .cmp .inn (.var 10) (.var 16)]), .iff (.cmp .ne (.rpr (.lst [.call 34 [.var 13, .var 15], .call 34 [.var 14, .var 15]])) (.rpr (.var 17))) [.ret (.cB false)] []]]]
abbrev bN : List Sx := [.iff (.cmp .lt (.bin .mul (.var 9) (.var 9)) (.bin .mul (.bin .mul (.var 8) (.var 8)) (.call 51 [.var 6, .tup [.var 11, .var 12]]))) [.asgn (.tp [.nm 18, .nm 19, .nm 20]) (.call 52 [.tup [.bin .mul (.var 8) (.var 11), .bin .mul (.var 8) (.var 12), .var 9]]), .set 2 (.bin .add (.var 2) (.lst [.tup [.var 6, .var 18, .var 19, .var 20], .tup [.var 6, .bin .sub (.cI 0) (.var 18), .bin .sub (.cI 0) (.var 19), .bin .sub (.cI 0) (.var 20)]]))] []]
abbrev bL : List Sx := [.fors (.nm 9) .seq [.tup [.bin .sub (.bin .mul (.var 8) (.var 3)) (.var 7), .bin .add (.bin .mul (.var 8) (.var 3)) (.var 7)]] [.iff (.cmp .lt (.bin .mul (.var 9) (.var 9)) (.bin .mul (.bin .mul (.var 8) (.var 8)) (.call 51 [.var 6, .tup [.var 11, .var 12]]))) [.asgn (.tp [.nm 18, .nm 19, .nm 20]) (.call 52 [.tup [.bin .mul (.var 8) (.var 11), .bin .mul (.var 8) (.var 12), .var 9]]), .set 2 (.bin .add (.var 2) (.lst [.tup [.var 6, .var 18, .var 19, .var 20], .tup [.var 6, .bin .sub (.cI 0) (.var 18), .bin .sub (.cI 0) (.var 19), .bin .sub (.cI 0) (.var 20)]]))] []]]
/-- the numbers of a valve are small -/
class VB (a b sh xh sc xc : Int) : Prop where
  a : Bd a 96
  b : Bd b 96
  sh : Bd sh 96
  xh : Bd xh 96
  sc : Bd sc 96
  xc : Bd xc 96
instance vb_sd [h : VB a b sh xh sc xc] : SdB (sdOf e a b sh xh sc xc) 96 := by
  have h1 := h.a.h; have h2 := h.b.h; have h3 := h.sh.h; have h4 := h.xh.h; have h5 := h.sc.h; have h6 := h.xc.h
  unfold sdOf
  split
  · exact ⟨h1, h2, h3, by simpa using h1, by simpa using h2, h4⟩
  · exact ⟨by simpa using h1, by simpa using h2, h5, h1, h2, h6⟩
abbrev env (f a b sh xh sc xc port n m : Int) (L : List PyData) (w3 w4 w9 w10 w13 w14 w15 w16 w17 w18 w19 w20 : Option W) : Env' :=
  [some (.l 0), some (.d (Vd f a b sh xh sc xc port)), some (.d (.list L)), w3, w4, some (.d (V2 n m)), some (.d (.int f)), some (.d (.int n)), some (.d (.int m)), w9, w10, some (.d (.int a)), some (.d (.int b)), w13, w14, w15, w16, w17, w18, w19, w20]
theorem sl_angles (k : Nat) [V : VB a b sh xh sc xc] [Bd n 100] [Bd m 4] (hS : Slk n m) (he : IsEnd e) (ht : IsWord t) {L : List PyData} (hL : ∀ d ∈ L, GA f d) (hl : L.length ≤ 1000) (w3 w9 w15 w16 w17 w18 w19 w20 : Option W) :
    ∃ w15' w16' w17', frW (sm (k + 10)) .seq (.nm 15) bA (env f a b sh xh sc xc port n m L w3 (some (.d (.str e))) w9 (some (.d (.str t))) (some (.d (.tuple [.int f, andT (sF (sdOf e a b sh xh sc xc) t n m 1) (sX (sdOf e a b sh xh sc xc) t n m 1)]))) (some (.d (.tuple [.int f, pT (sdOf e a b sh xh sc xc) t n m]))) w15 w16 w17 w18 w19 w20) [.d (.list L)] =
      re (.nx (env f a b sh xh sc xc port n m L w3 (some (.d (.str e))) w9 (some (.d (.str t))) (some (.d (.tuple [.int f, andT (sF (sdOf e a b sh xh sc xc) t n m 1) (sX (sdOf e a b sh xh sc xc) t n m 1)]))) (some (.d (.tuple [.int f, pT (sdOf e a b sh xh sc xc) t n m]))) w15' w16' w17' w18 w19 w20)) := by
  have := V.a; have := V.b; have := V.sh; have := V.xh; have := V.sc; have := V.xc
  obtain ⟨ρ', ⟨_, w15', w16', w17', rfl⟩, hr⟩ := frW_rel (Γ := sm (k + 10)) (k := .seq) (p := .nm 15) (b := bA) (ws := [.d (.list L)]) (xs := L) (ρ := env f a b sh xh sc xc port n m L w3 (some (.d (.str e))) w9 (some (.d (.str t))) (some (.d (.tuple [.int f, andT (sF (sdOf e a b sh xh sc xc) t n m 1) (sX (sdOf e a b sh xh sc xc) t n m 1)]))) (some (.d (.tuple [.int f, pT (sdOf e a b sh xh sc xc) t n m]))) w15 w16 w17 w18 w19 w20)
    (fun ys ρ => (∀ y ∈ ys, GA f y) ∧ ∃ w15 w16 w17, ρ = env f a b sh xh sc xc port n m L w3 (some (.d (.str e))) w9 (some (.d (.str t))) (some (.d (.tuple [.int f, andT (sF (sdOf e a b sh xh sc xc) t n m 1) (sX (sdOf e a b sh xh sc xc) t n m 1)]))) (some (.d (.tuple [.int f, pT (sdOf e a b sh xh sc xc) t n m]))) w15 w16 w17 w18 w19 w20) (fun _ => rfl) (by show L.length ≤ 100000; omega) ⟨hL, _, _, _, rfl⟩ (by
      rintro x ys ρ ⟨hy, w15, w16, w17, rfl⟩
      obtain ⟨aa, ab, al, rfl, hA, hB⟩ := hy x List.mem_cons_self
      have hs := holds_sure k (n := n) (m := m) (f := f) (aa := aa) (ab := ab) (al := al) (sdOf e a b sh xh sc xc) t hA (by decide)
      have hp := holds_poss k (n := n) (m := m) (f := f) (aa := aa) (ab := ab) (al := al) (sdOf e a b sh xh sc xc) t hA (by decide)
      obtain ⟨A, B, hw, hAB⟩ := l_within (k + 5) (f := f) (a := a) (b := b) (sh := sh) (xh := xh) (sc := sc) (xc := xc) (port := port) (n := n) (m := m) (af := f) (aa := aa) (ab := ab) (al := al) he
      have hF := face_of e a b sh xh sc xc
      generalize hsd : sdOf e a b sh xh sc xc = s at *
      have hk := key ht (uS f aa ab al s n m 1) (uS f aa ab al s n m (-1)) (uX f aa ab al s n m 1) (uX f aa ab al s n m (-1)) (decide (blows s)) (uS_mono hA hS.n0) (uX_mono hA hS.n0)
        (fun hb h1 h2 => no_both hA hF hS.m0 (by simpa using hb) 1 (-1) (by decide) h1 h2) (fun hb h1 h2 => no_both hA hF hS.m0 (by simpa using hb) (-1) 1 (by decide) h1 h2)
        (fun hb h1 h2 => no_none hA hF hS.m0 (by simpa using hb) 1 (-1) (by decide) h1 h2) (fun hb h1 h2 => no_none hA hF hS.m0 (by simpa using hb) (-1) 1 (by decide) h1 h2)
      have hq : sureV t (uS f aa ab al s n m 1) (uS f aa ab al s n m (-1)) (uX f aa ab al s n m 1) (uX f aa ab al s n m (-1)) = dueE A B t ∧ possV t (uS f aa ab al s n m 1) (uS f aa ab al s n m (-1)) (uX f aa ab al s n m 1) (uX f aa ab al s n m (-1)) (decide (blows s)) = dueI A B t (decide (blows s)) ∧ IsWord A ∧ IsWord B := by
        rcases hAB with ⟨rfl, rfl⟩ | ⟨rfl, rfl⟩
        · exact ⟨hk.1, hk.2.1, word_ok _ _, word_ok _ _⟩
        · exact ⟨hk.2.2.1, hk.2.2.2, word_ok _ _, word_ok _ _⟩
      obtain ⟨q1, q2, wA, wB⟩ := hq
      rw [q1] at hs
      rw [q2] at hp
      have d1 := due_eq wA wB ht (blows s)
      have d2 := due_in wA wB ht (blows s)
      refine ⟨_, _, by rw [asg_nm], ?_, ⟨fun y h => hy y (List.mem_cons_of_mem _ h), some (.d (A4 f aa ab al)), some (.d (.list (within A B (blows s)))), some (.d (.list [.bool (dueE A B t), .bool (dueI A B t (decide (blows s)))])), rfl⟩⟩
      simp [hw, d1, d2, hs, hp, rpr2])
  exact ⟨w15', w16', w17', hr⟩
end G20

namespace G20
open PySem PySem.Spec PyProof.Rows L2 DL
variable {N : Nat} {S T : Sto} {f a b sh xh sc xc port : Int} {e t : Str} {n m : Int}
theorem sl_states (k : Nat) [V : VB a b sh xh sc xc] [Bd n 100] [Bd m 4] (hV : Val f a b sh xh sc xc port) (hS : Slk n m) (he : IsEnd e) {L : List PyData} (hL : ∀ d ∈ L, GA f d) (hl : L.length ≤ 1000) (w3 w9 w10 w13 w14 w15 w16 w17 w18 w19 w20 : Option W) :
    ∃ w10' w13' w14' w15' w16' w17', frW (sm (k + 10)) .seq (.nm 10) bS (env f a b sh xh sc xc port n m L w3 (some (.d (.str e))) w9 w10 w13 w14 w15 w16 w17 w18 w19 w20) [.d (.tuple [.str "steam", .str "exhaust", .str "both", .str "closed"])] =
      re (.nx (env f a b sh xh sc xc port n m L w3 (some (.d (.str e))) w9 w10' w13' w14' w15' w16' w17' w18 w19 w20)) := by
  obtain ⟨ρ', ⟨_, w10', w13', w14', w15', w16', w17', rfl⟩, hr⟩ := frW_rel (Γ := sm (k + 10)) (k := .seq) (p := .nm 10) (b := bS) (ws := [.d (.tuple [.str "steam", .str "exhaust", .str "both", .str "closed"])]) (xs := [.str "steam", .str "exhaust", .str "both", .str "closed"]) (ρ := env f a b sh xh sc xc port n m L w3 (some (.d (.str e))) w9 w10 w13 w14 w15 w16 w17 w18 w19 w20)
    (fun ys ρ => (∀ y ∈ ys, ∃ t : Str, y = .str t ∧ IsWord t) ∧ ∃ w10 w13 w14 w15 w16 w17, ρ = env f a b sh xh sc xc port n m L w3 (some (.d (.str e))) w9 w10 w13 w14 w15 w16 w17 w18 w19 w20) (fun _ => rfl) (by decide)
    ⟨(by
      intro y hy
      simp only [List.mem_cons, List.not_mem_nil, or_false] at hy
      rcases hy with rfl | rfl | rfl | rfl
      · exact ⟨_, rfl, .inl rfl⟩
      · exact ⟨_, rfl, .inr (.inl rfl)⟩
      · exact ⟨_, rfl, .inr (.inr (.inl rfl))⟩
      · exact ⟨_, rfl, .inr (.inr (.inr rfl))⟩), _, _, _, _, _, _, rfl⟩ (by
      rintro x ys ρ ⟨hy, w10, w13, w14, w15, w16, w17, rfl⟩
      obtain ⟨t, rfl, ht⟩ := hy x List.mem_cons_self
      obtain ⟨w15', w16', w17', hA⟩ := sl_angles k (f := f) (a := a) (b := b) (sh := sh) (xh := xh) (sc := sc) (xc := xc) (port := port) (n := n) (m := m) hS he ht hL hl w3 w9 w15 w16 w17 w18 w19 w20
      have h1 := e_sure_region (k + 5) (f := f) (a := a) (b := b) (sh := sh) (xh := xh) (sc := sc) (xc := xc) (port := port) (n := n) (m := m) (e := e) (t := t) (w := 96) (u := 100) (v := 4) (by decide) he ht hV hS
      have h2 := e_possible_region (k + 5) (f := f) (a := a) (b := b) (sh := sh) (xh := xh) (sc := sc) (xc := xc) (port := port) (n := n) (m := m) (e := e) (t := t) (w := 96) (u := 100) (v := 4) (by decide) he ht hV hS
      have h3 := e_is_region (k + 3) (f := f) (tr_sure (sdOf e a b sh xh sc xc) t n m 1) hV.f1 hV.f3
      have h4 := e_is_region (k + 3) (f := f) (tr_pT (sdOf e a b sh xh sc xc) t n m) hV.f1 hV.f3
      refine ⟨_, env f a b sh xh sc xc port n m L w3 (some (.d (.str e))) w9 (some (.d (.str t))) (some (.d (.tuple [.int f, andT (sF (sdOf e a b sh xh sc xc) t n m 1) (sX (sdOf e a b sh xh sc xc) t n m 1)]))) (some (.d (.tuple [.int f, pT (sdOf e a b sh xh sc xc) t n m]))) w15' w16' w17' w18 w19 w20, by rw [asg_nm], ?_, ⟨fun y h => hy y (List.mem_cons_of_mem _ h), _, _, _, _, _, _, rfl⟩⟩
      simp [h1, h2, h3, h4, permW, ex_fors, hA])
  exact ⟨w10', w13', w14', w15', w16', w17', hr⟩
end G20

namespace G20
open PySem PySem.Spec PyProof.Rows L2 DL
variable {N : Nat} {S T : Sto} {f a b sh xh sc xc port : Int} {e t : Str} {n m : Int}
theorem sl_ends (k : Nat) [V : VB a b sh xh sc xc] [Bd n 100] [Bd m 4] (hV : Val f a b sh xh sc xc port) (hS : Slk n m) {L : List PyData} (hL : ∀ d ∈ L, GA f d) (hl : L.length ≤ 1000) (w3 w4 w9 w10 w13 w14 w15 w16 w17 w18 w19 w20 : Option W) :
    ∃ w4' w10' w13' w14' w15' w16' w17', frW (sm (k + 10)) .seq (.nm 4) bE (env f a b sh xh sc xc port n m L w3 w4 w9 w10 w13 w14 w15 w16 w17 w18 w19 w20) [.d (.tuple [.str "head", .str "crank"])] =
      re (.nx (env f a b sh xh sc xc port n m L w3 w4' w9 w10' w13' w14' w15' w16' w17' w18 w19 w20)) := by
  obtain ⟨ρ', ⟨_, w4', w10', w13', w14', w15', w16', w17', rfl⟩, hr⟩ := frW_rel (Γ := sm (k + 10)) (k := .seq) (p := .nm 4) (b := bE) (ws := [.d (.tuple [.str "head", .str "crank"])]) (xs := [.str "head", .str "crank"]) (ρ := env f a b sh xh sc xc port n m L w3 w4 w9 w10 w13 w14 w15 w16 w17 w18 w19 w20)
    (fun ys ρ => (∀ y ∈ ys, ∃ t : Str, y = .str t ∧ IsEnd t) ∧ ∃ w4 w10 w13 w14 w15 w16 w17, ρ = env f a b sh xh sc xc port n m L w3 w4 w9 w10 w13 w14 w15 w16 w17 w18 w19 w20) (fun _ => rfl) (by decide)
    ⟨(by
      intro y hy
      simp only [List.mem_cons, List.not_mem_nil, or_false] at hy
      rcases hy with rfl | rfl
      · exact ⟨_, rfl, .inl rfl⟩
      · exact ⟨_, rfl, .inr rfl⟩), _, _, _, _, _, _, _, rfl⟩ (by
      rintro x ys ρ ⟨hy, w4, w10, w13, w14, w15, w16, w17, rfl⟩
      obtain ⟨e, rfl, he⟩ := hy x List.mem_cons_self
      obtain ⟨w10', w13', w14', w15', w16', w17', hA⟩ := sl_states k (f := f) (a := a) (b := b) (sh := sh) (xh := xh) (sc := sc) (xc := xc) (port := port) (n := n) (m := m) hV hS he hL hl w3 w9 w10 w13 w14 w15 w16 w17 w18 w19 w20
      refine ⟨_, env f a b sh xh sc xc port n m L w3 (some (.d (.str e))) w9 w10' w13' w14' w15' w16' w17' w18 w19 w20, by rw [asg_nm], ?_, ⟨fun y h => hy y (List.mem_cons_of_mem _ h), _, _, _, _, _, _, _, rfl⟩⟩
      simp [ex_fors, hA])
  exact ⟨w4', w10', w13', w14', w15', w16', w17', hr⟩
/-- one level: the two angles at its edges -/
theorem sl_near (k : Nat) [V : VB a b sh xh sc xc] [hnb : Bd n 100] [hmb : Bd m 4] (hf : 1 ≤ f) (hf3 : f ≤ 3) {lev : Int} (hlev : lev.natAbs < 2 ^ 97) (hm0 : 0 < m) {L : List PyData} (hL : ∀ d ∈ L, GA f d) (hl : L.length ≤ 900) (w4 w9 w10 w13 w14 w15 w16 w17 w18 w19 w20 : Option W) :
    ∃ L' w9' w18' w19' w20', (∀ d ∈ L', GA f d) ∧ L'.length ≤ L.length + 4 ∧ exSs (sm (k + 10)) bL (env f a b sh xh sc xc port n m L (some (.d (.int lev))) w4 w9 w10 w13 w14 w15 w16 w17 w18 w19 w20) =
      re (.nx (env f a b sh xh sc xc port n m L' (some (.d (.int lev))) w4 w9' w10 w13 w14 w15 w16 w17 w18' w19' w20')) := by
  have := V.a; have := V.b
  have hfb : Bd f 2 := ⟨by omega⟩
  have hlb : Bd lev 97 := ⟨hlev⟩
  obtain ⟨ρ', ⟨_, L', w9', w18', w19', w20', hL', hl', rfl⟩, hr⟩ := frW_rel (Γ := sm (k + 10)) (k := .seq) (p := .nm 9) (b := bN) (ws := [.d (.tuple [.int (m * lev - n), .int (m * lev + n)])]) (xs := [.int (m * lev - n), .int (m * lev + n)]) (ρ := env f a b sh xh sc xc port n m L (some (.d (.int lev))) w4 w9 w10 w13 w14 w15 w16 w17 w18 w19 w20)
    (fun ys ρ => (∀ y ∈ ys, ∃ i : Int, y = .int i ∧ i.natAbs < 2 ^ 103) ∧ ∃ (L' : List PyData) (w9 w18 w19 w20 : Option W), (∀ d ∈ L', GA f d) ∧ L'.length + 2 * ys.length ≤ L.length + 4 ∧ ρ = env f a b sh xh sc xc port n m L' (some (.d (.int lev))) w4 w9 w10 w13 w14 w15 w16 w17 w18 w19 w20) (fun _ => rfl) (by show 2 ≤ 100000; decide)
    ⟨(by
      intro y hy
      simp only [List.mem_cons, List.not_mem_nil, or_false] at hy
      rcases hy with rfl | rfl
      · exact ⟨_, rfl, ((inferInstance : Bd (m * lev - n) (max (4 + 97) 100 + 1)).mono (by decide : _ ≤ 103)).h⟩
      · exact ⟨_, rfl, ((inferInstance : Bd (m * lev + n) (max (4 + 97) 100 + 1)).mono (by decide : _ ≤ 103)).h⟩), L, _, _, _, _, hL, by simp, rfl⟩ (by
      rintro x ys ρ ⟨hy, L', w9, w18, w19, w20, hL', hl', rfl⟩
      obtain ⟨i, rfl, hi⟩ := hy x List.mem_cons_self
      have hib : Bd i 103 := ⟨hi⟩
      by_cases hc : i * i < m * m * (a * a + f * b * b)
      · have hn : i * i < m * a * (m * a) + f * (m * b) * (m * b) := by
          have : m * a * (m * a) + f * (m * b) * (m * b) = m * m * (a * a + f * b * b) := by grind
          omega
        obtain ⟨p, q, l, e1, e2, e3, e4, e5⟩ := l_red3 (k + 8) (((inferInstance : Bd (m * a) (4 + 96)).mono (by decide : _ ≤ 103)).h) (((inferInstance : Bd (m * b) (4 + 96)).mono (by decide : _ ≤ 103)).h) hi (by decide) hf hf3 hn
        have hga := ga_of e2 e3 e4 e5 (by decide)
        have hga2 := ga_of (ang_neg e2) (w := 103) (by omega) (by omega) (by omega) (by decide)
        have hlen : L'.length + 2 ≤ 100000 := by simp at hl'; omega
        refine ⟨_, env f a b sh xh sc xc port n m (L' ++ [A4 f p q l, A4 f (0 - p) (0 - q) (0 - l)]) (some (.d (.int lev))) w4 (some (.d (.int i))) w10 w13 w14 w15 w16 w17 (some (.d (.int p))) (some (.d (.int q))) (some (.d (.int l))), by rw [asg_nm], ?_, ⟨fun y h => hy y (List.mem_cons_of_mem _ h), _, _, _, _, _, ?_, by simp at hl' ⊢; omega, rfl⟩⟩
        · simp (disch := omega) [l_norm, hc, e1, o2_addL_, hlen]
        · intro d hd
          rcases List.mem_append.mp hd with z | z
          · exact hL' d z
          · simp only [List.mem_cons, List.not_mem_nil, or_false] at z
            rcases z with rfl | rfl
            · exact hga
            · exact hga2
      · refine ⟨_, env f a b sh xh sc xc port n m L' (some (.d (.int lev))) w4 (some (.d (.int i))) w10 w13 w14 w15 w16 w17 w18 w19 w20, by rw [asg_nm], ?_, ⟨fun y h => hy y (List.mem_cons_of_mem _ h), _, _, _, _, _, hL', by simp at hl' ⊢; omega, rfl⟩⟩
        simp (disch := omega) [l_norm, hc])
  refine ⟨L', w9', w18', w19', w20', hL', by simpa using hl', ?_⟩
  simp (disch := omega) [ex_fors, hr]
end G20

namespace G20
open PySem PySem.Spec PyProof.Rows L2 DL
variable {N : Nat} {S T : Sto} {f a b sh xh sc xc port : Int} {e t : Str} {n m : Int}
theorem sl_levels (k : Nat) [V : VB a b sh xh sc xc] [hnb : Bd n 100] [hmb : Bd m 4] (hf : 1 ≤ f) (hf3 : f ≤ 3) (hm0 : 0 < m) {L : List PyData} (hL : ∀ d ∈ L, GA f d) (hl : L.length ≤ 800) :
    ∃ L' w3' w9' w18' w19' w20', (∀ d ∈ L', GA f d) ∧ L'.length ≤ 900 ∧ frW (sm (k + 10)) .seq (.nm 3) bL (env f a b sh xh sc xc port n m L none none none none none none none none none none none none) [.d (.tuple [.int sh, .int (0 - xh), .int (0 - sc), .int xc])] =
      re (.nx (env f a b sh xh sc xc port n m L' w3' none w9' none none none none none none w18' w19' w20')) := by
  have h3 := V.sh.h; have h4 := V.xh.h; have h5 := V.sc.h; have h6 := V.xc.h
  obtain ⟨ρ', ⟨_, L', w3', w9', w18', w19', w20', hL', hl', rfl⟩, hr⟩ := frW_rel (Γ := sm (k + 10)) (k := .seq) (p := .nm 3) (b := bL) (ws := [.d (.tuple [.int sh, .int (0 - xh), .int (0 - sc), .int xc])]) (xs := [.int sh, .int (0 - xh), .int (0 - sc), .int xc]) (ρ := env f a b sh xh sc xc port n m L none none none none none none none none none none none none)
    (fun ys ρ => (∀ y ∈ ys, ∃ i : Int, y = .int i ∧ i.natAbs < 2 ^ 97) ∧ ∃ (L' : List PyData) (w3 w9 w18 w19 w20 : Option W), (∀ d ∈ L', GA f d) ∧ L'.length + 4 * ys.length ≤ 820 ∧ ρ = env f a b sh xh sc xc port n m L' w3 none w9 none none none none none none w18 w19 w20) (fun _ => rfl) (by show 4 ≤ 100000; decide)
    ⟨(by
      intro y hy
      simp only [List.mem_cons, List.not_mem_nil, or_false] at hy
      rcases hy with rfl | rfl | rfl | rfl <;> exact ⟨_, rfl, by omega⟩), L, _, _, _, _, _, hL, by simp; omega, rfl⟩ (by
      rintro x ys ρ ⟨hy, L', w3, w9, w18, w19, w20, hL', hl', rfl⟩
      obtain ⟨i, rfl, hi⟩ := hy x List.mem_cons_self
      obtain ⟨L2, w9', w18', w19', w20', g1, g2, g3⟩ := sl_near k (f := f) (a := a) (b := b) (sh := sh) (xh := xh) (sc := sc) (xc := xc) (port := port) (n := n) (m := m) hf hf3 hi hm0 hL' (by simp at hl'; omega) none w9 none none none none none none w18 w19 w20
      exact ⟨env f a b sh xh sc xc port n m L' (some (.d (.int i))) none w9 none none none none none none w18 w19 w20, _, by rw [asg_nm]; rfl, g3, ⟨fun y h => hy y (List.mem_cons_of_mem _ h), L2, _, _, _, _, _, g1, by simp at hl' ⊢; omega, rfl⟩⟩)
  exact ⟨L', w3', w9', w18', w19', w20', hL', by simp at hl'; omega, hr⟩
theorem l_slack_right (k : Nat) [V : VB a b sh xh sc xc] (hV : Val f a b sh xh sc xc port) {L : List PyData} (hL : ∀ d ∈ L, GA f d) (hl : L.length ≤ 800) (hN : N ≤ 40000) (h : WS N S T) :
    wp ((sm (k + 11)).call 67 [.l 0, .d (Vd f a b sh xh sc xc port), .d (.list L)]) S fun w S' => ∃ d, w = .d d ∧ d = .bool true ∧ WS (N + 6) S' T := by
  rw [r__law_slack_right, c__law_slack_right]
  refine wp_finD h ?_
  simp
  refine wp_mono (l_slack (k + 6) V.sh.h V.xh.h (by omega) h) ?_
  rintro _ S1 ⟨_, rfl, ⟨n, m, rfl, hS, hn, hm⟩, hs1⟩
  have hnb : Bd n 100 := ⟨hn⟩
  have hmb : Bd m 4 := ⟨hm⟩
  obtain ⟨L', w3', w9', w18', w19', w20', g1, g2, g3⟩ := sl_levels k (f := f) (a := a) (b := b) (sh := sh) (xh := xh) (sc := sc) (xc := xc) (port := port) (n := n) (m := m) hV.f1 hV.f3 hS.m0 hL hl
  obtain ⟨w4', w10', w13', w14', w15', w16', w17', g4⟩ := sl_ends k (f := f) (a := a) (b := b) (sh := sh) (xh := xh) (sc := sc) (xc := xc) (port := port) (n := n) (m := m) hV hS g1 (by omega) w3' none w9' none none none none none none w18' w19' w20'
  simp only [Int.zero_sub] at g3
  simp [ex_fors, g3, g4]
  exact ⟨[], ws_nil hs1⟩
end G20

namespace G20
open PySem PySem.Spec PyProof.Rows L2 DL
variable {N : Nat} {S T : Sto} {f a b sh xh sc xc port : Int} {aa ab al : Int} {e t : Str} {n m : Int}
theorem l_state96 (k : Nat) [A : AnB f aa ab al] [V : VB a b sh xh sc xc] (h : IsEnd e) :
    (sm (k + 4)).call 61 [.d (Vd f a b sh xh sc xc port), .d (.str e), .d (A4 f aa ab al)] = re (.d (.str (wordOf (st1 f aa ab al (sdOf e a b sh xh sc xc)) (st2 f aa ab al (sdOf e a b sh xh sc xc))))) :=
  @l_state' f a b sh xh sc xc port f aa ab al e k A (V.a.mono (by decide)) (V.b.mono (by decide)) (V.sh.mono (by decide)) (V.xh.mono (by decide)) (V.sc.mono (by decide)) (V.xc.mono (by decide)) (by decide) h
theorem rpr_words {A B : Str} (hA : IsWord A) (hB : IsWord B) : reprOk (.list [.str A, .str B]) = true := by
  rcases hA with rfl | rfl | rfl | rfl <;> rcases hB with rfl | rfl | rfl | rfl <;> decide +kernel
theorem rpr4 (p q r s : Bool) : reprOk (.list [.bool p, .bool q, .bool r, .bool s]) = true := by
  cases p <;> cases q <;> cases r <;> cases s <;> decide +kernel
/-- a state's region, as data -/
def regD (f : Int) (s : Sd) (t : Str) : PyData := .tuple [.int f, andT (first s t) (second s t)]
theorem lies_first (k : Nat) (s : Sd) (t : Str) {w : Nat} [A : AnB f aa ab al] [SdB s w] (hw : w ≤ 96) : (sm (k + 6)).call 33 [.d (first s t), .d (A4 f aa ab al)] = re (.d (.bool (if t = "steam" ∨ t = "both" then st1 f aa ab al s else !st1 f aa ab al s))) := by
  unfold first
  split
  · rw [e_lies_side (k + 1) _ _ _ (by omega)]; rfl
  · rw [e_lies_not k _ _ _ (by omega)]; rfl
theorem lies_second (k : Nat) (s : Sd) (t : Str) {w : Nat} [A : AnB f aa ab al] [SdB s w] (hw : w ≤ 96) : (sm (k + 6)).call 33 [.d (second s t), .d (A4 f aa ab al)] = re (.d (.bool (if t = "exhaust" ∨ t = "both" then st2 f aa ab al s else !st2 f aa ab al s))) := by
  unfold second
  split
  · rw [e_lies_side (k + 1) _ _ _ (by omega)]; rfl
  · rw [e_lies_not k _ _ _ (by omega)]; rfl
def isV (t : Str) (p q : Bool) : Bool := (if t = "steam" ∨ t = "both" then p else !p) && (if t = "exhaust" ∨ t = "both" then q else !q)
theorem isV_eq (ht : IsWord t) (p q : Bool) : isV t p q = decide (wordOf p q = t) := by
  rcases ht with rfl | rfl | rfl | rfl <;> cases p <;> cases q <;> simp [isV, wordOf]
theorem holds_reg (k : Nat) (s : Sd) (ht : IsWord t) {w : Nat} [A : AnB f aa ab al] (hA : Ang f aa ab al) [SdB s w] (hw : w ≤ 96) :
    (sm (k + 10)).call 34 [.d (regD f s t), .d (A4 f aa ab al)] = re (.d (.bool (decide (wordOf (st1 f aa ab al s) (st2 f aa ab al s) = t)))) := by
  rw [← isV_eq ht]
  exact e_holds k (.a (lf_first s t) (lf_second s t)) hA (e_lies_and (k + 2) (lies_first (k + 2) s t hw) (lies_second (k + 2) s t hw))
end G20

namespace G20
open PySem PySem.Spec PyProof.Rows L2 DL
variable {N : Nat} {S T : Sto} {f a b sh xh sc xc port : Int} {e t : Str} {n m : Int}
abbrev gA : List Sx := [.set 8 (.call 61 [.var 2, .var 4, .var 7]), .iff (.cmp .ne (.rpr (.lst [.call 26 [.var 2, .var 4, .var 7], .callK 26 0 [2, 1, 0] [.var 7, .var 4, .var 2]])) (.rpr (.lst [.var 8, .var 8]))) [.ret (.cB false)] [], .setC 9 (.cmpr .seq [.var 5] (.nm 11) [] (.call 34 [.var 11, .var 7]) [11]), .iff (.cmp .ne (.rpr (.var 9)) (.rpr (.cmpr .seq [.tup [.cS "steam", .cS "exhaust", .cS "both", .cS "closed"]] (.nm 6) [] (.cmp .eq (.var 8) (.var 6)) [6]))) [.ret (.cB false)] []]
abbrev gS : List Sx := [.app 5 (.call 27 [.var 2, .var 4, .var 6]), .iff (.or [.cmp .isnt (.call 31 [.idx (.var 5) (.neg (.cI 1))]) (.cB true), .cmp .ne (.idx (.idx (.var 5) (.neg (.cI 1))) (.cI 0)) (.var 1)]) [.ret (.cB false)] []]
abbrev gE : List Sx := [.set 5 (.lstL []), .fors (.nm 6) .seq [.tup [.cS "steam", .cS "exhaust", .cS "both", .cS "closed"]] [.app 5 (.call 27 [.var 2, .var 4, .var 6]), .iff (.or [.cmp .isnt (.call 31 [.idx (.var 5) (.neg (.cI 1))]) (.cB true), .cmp .ne (.idx (.idx (.var 5) (.neg (.cI 1))) (.cI 0)) (.var 1)]) [.ret (.cB false)] []], .iff (.cmp .ne (.callK 27 0 [2, 1, 0] [.cS "both", .var 4, .var 2]) (.idx (.var 5) (.cI 2))) [.ret (.cB false)] [], .fors (.nm 7) .seq [.var 3] [.set 8 (.call 61 [.var 2, .var 4, .var 7]), .iff (.cmp .ne (.rpr (.lst [.call 26 [.var 2, .var 4, .var 7], .callK 26 0 [2, 1, 0] [.var 7, .var 4, .var 2]])) (.rpr (.lst [.var 8, .var 8]))) [.ret (.cB false)] [], .setC 9 (.cmpr .seq [.var 5] (.nm 11) [] (.call 34 [.var 11, .var 7]) [11]), .iff (.cmp .ne (.rpr (.var 9)) (.rpr (.cmpr .seq [.tup [.cS "steam", .cS "exhaust", .cS "both", .cS "closed"]] (.nm 6) [] (.cmp .eq (.var 8) (.var 6)) [6]))) [.ret (.cB false)] []]]
abbrev words : List PyData := [.str "steam", .str "exhaust", .str "both", .str "closed"]
abbrev renv (f a b sh xh sc xc port : Int) (L : List PyData) (w4 w5 w6 w7 w8 w9 w10 w11 : Option W) : Env' :=
  [some (.l 0), some (.d (.int f)), some (.d (Vd f a b sh xh sc xc port)), some (.d (.list L)), w4, w5, w6, w7, w8, w9, w10, w11]
def regs (f : Int) (s : Sd) : List PyData := [regD f s "steam", regD f s "exhaust", regD f s "both", regD f s "closed"]
theorem told_ok (k : Nat) {j : Nat} [V : VB a b sh xh sc xc] {aa ab al : Int} [A : AnB f aa ab al] (hA : Ang f aa ab al) (hj : S[j]? = some (regs f (sdOf e a b sh xh sc xc))) (L : List PyData) (w4 w6 w8 w9 w10 : Option W) :
    cmW' (sm (k + 10)) .seq (.nm 11) [] (.call 34 [.var 11, .var 7]) (renv f a b sh xh sc xc port L w4 (some (.l j)) w6 (some (.d (A4 f aa ab al))) w8 w9 w10 none) [.l j] S =
      some (.ok (.d (.list [.bool (decide (wordOf (st1 f aa ab al (sdOf e a b sh xh sc xc)) (st2 f aa ab al (sdOf e a b sh xh sc xc)) = "steam")), .bool (decide (wordOf (st1 f aa ab al (sdOf e a b sh xh sc xc)) (st2 f aa ab al (sdOf e a b sh xh sc xc)) = "exhaust")), .bool (decide (wordOf (st1 f aa ab al (sdOf e a b sh xh sc xc)) (st2 f aa ab al (sdOf e a b sh xh sc xc)) = "both")), .bool (decide (wordOf (st1 f aa ab al (sdOf e a b sh xh sc xc)) (st2 f aa ab al (sdOf e a b sh xh sc xc)) = "closed"))])) S) := by
  have one_ : ∀ t : Str, IsWord t → ∃ ρ', asg (.nm 11) (regD f (sdOf e a b sh xh sc xc) t) (renv f a b sh xh sc xc port L w4 (some (.l j)) w6 (some (.d (A4 f aa ab al))) w8 w9 w10 none) S = some (.ok ρ' S) ∧
      evE (sm (k + 10)) (.call 34 [.var 11, .var 7]) ρ' S = some (.ok (.d (.bool (decide (wordOf (st1 f aa ab al (sdOf e a b sh xh sc xc)) (st2 f aa ab al (sdOf e a b sh xh sc xc)) = t)))) S) := by
    intro t ht
    refine ⟨_, by rw [asg_nm]; rfl, ?_⟩
    have h := holds_reg k (sdOf e a b sh xh sc xc) ht hA (by decide)
    simp [h]
    rfl
  refine cmS_rel (xs := regs f (sdOf e a b sh xh sc xc)) (g := [j]) ?_ (by show 4 ≤ 100000; decide) (.cons (one_ _ (.inl rfl)) (.cons (one_ _ (.inr (.inl rfl))) (.cons (one_ _ (.inr (.inr (.inl rfl)))) (.cons (one_ _ (.inr (.inr (.inr rfl)))) .nil))))
  show (S[j]?).map _ = _
  rw [hj]
  rfl
end G20

namespace G20
open PySem PySem.Spec PyProof.Rows L2 DL
variable {N : Nat} {S T : Sto} {f a b sh xh sc xc port : Int} {e t : Str} {n m : Int}
theorem wp_of_eq {α : Type} {m : Mo α} {S S' : Sto} {x : α} {Q : α → Sto → Prop} (h : m S = some (.ok x S')) (q : Q x S') : wp m S Q := ⟨x, S', h, q⟩
theorem right_angles (k : Nat) {j : Nat} [V : VB a b sh xh sc xc] (hV : Val f a b sh xh sc xc port) (he : IsEnd e) (hj : S[j]? = some (regs f (sdOf e a b sh xh sc xc))) {L : List PyData} (hL : ∀ d ∈ L, GA f d) (hl : L.length ≤ 1000) (w6 w7 w8 w9 w10 : Option W) :
    wp (frW (sm (k + 10)) .seq (.nm 7) gA (renv f a b sh xh sc xc port L (some (.d (.str e))) (some (.l j)) w6 w7 w8 w9 w10 none) [.d (.list L)]) S fun g S' => S' = S ∧ ∃ w7 w8 w9, g = .nx (renv f a b sh xh sc xc port L (some (.d (.str e))) (some (.l j)) w6 w7 w8 w9 w10 none) := by
  refine wp_for (fun ys ρ S' => S' = S ∧ (∀ y ∈ ys, GA f y) ∧ ∃ w7 w8 w9, ρ = renv f a b sh xh sc xc port L (some (.d (.str e))) (some (.l j)) w6 w7 w8 w9 w10 none) (xs := L) (g := []) rfl (by show L.length ≤ 100000; omega) ⟨rfl, hL, _, _, _, rfl⟩ (fun _ _ _ _ i hi => by cases hi) ?_ ?_
  · rintro ρ' S' ⟨rfl, _, w7, w8, w9, rfl⟩
    exact ⟨rfl, w7, w8, w9, rfl⟩
  · rintro x ys ρ S' ⟨rfl, hy, w7, w8, w9, rfl⟩
    obtain ⟨aa, ab, al, rfl, hA, hB⟩ := hy x List.mem_cons_self
    have h1 := l_state96 (k + 6) (f := f) (a := a) (b := b) (sh := sh) (xh := xh) (sc := sc) (xc := xc) (port := port) (aa := aa) (ab := ab) (al := al) he
    have h2 := e_state_at (k + 4) (f := f) (a := a) (b := b) (sh := sh) (xh := xh) (sc := sc) (xc := xc) (port := port) (aa := aa) (ab := ab) (al := al) (w := 96) (e := e) (by decide) he hV hA
    have h3 := told_ok (S := S') k (f := f) (a := a) (b := b) (sh := sh) (xh := xh) (sc := sc) (xc := xc) (port := port) (aa := aa) (ab := ab) (al := al) (e := e) hA hj L
    have hw := word_ok (st1 f aa ab al (sdOf e a b sh xh sc xc)) (st2 f aa ab al (sdOf e a b sh xh sc xc))
    generalize hdue : wordOf (st1 f aa ab al (sdOf e a b sh xh sc xc)) (st2 f aa ab al (sdOf e a b sh xh sc xc)) = due at *
    have h4 : ∀ (w7 w9 w10 : Option W), cmW' (sm (k + 10)) .seq (.nm 6) [] (.cmp .eq (.var 8) (.var 6)) (renv f a b sh xh sc xc port L (some (.d (.str e))) (some (.l j)) none w7 (some (.d (.str due))) w9 w10 none) [.d (.tuple words)] =
        re (.d (.list [.bool (decide (due = "steam")), .bool (decide (due = "exhaust")), .bool (decide (due = "both")), .bool (decide (due = "closed"))])) := by
      intro w7 w9 w10
      have := cm_tup (Γ := sm (k + 10)) (p := .nm 6) (e := .cmp .eq (.var 8) (.var 6)) (ρ0 := renv f a b sh xh sc xc port L (some (.d (.str e))) (some (.l j)) none w7 (some (.d (.str due))) w9 w10 none) (fun y => match y with
        | .str t => .bool (decide (due = t))
        | _ => .none) (xs := words) (by show 4 ≤ 100000; decide) (by
        intro x hx
        simp only [List.mem_cons, List.not_mem_nil, or_false] at hx
        rcases hx with rfl | rfl | rfl | rfl <;> exact ⟨_, by rw [asg_nm], by simp⟩)
      exact this
    simp [h1, h2, permW, rpr_words hw hw, ev_cmpr, wipeE]
    refine wp_of_eq (h3 _ _ _ _ _) ?_
    simp [h4, rpr4]
    exact fun y hh => hy y (List.mem_cons_of_mem _ hh)
end G20

namespace G20
open PySem PySem.Spec PyProof.Rows L2 DL
variable {N : Nat} {S T : Sto} {f a b sh xh sc xc port : Int} {e t : Str} {n m : Int}
theorem ix_last (S : Sto) (zs : List PyData) (r : PyData) : ixW (.l S.length) (.d (.int (-1))) (S ++ [zs ++ [r]]) = some (.ok (.d r) (S ++ [zs ++ [r]])) := by
  unfold ixW
  have h1 : asD (.l S.length) (S ++ [zs ++ [r]]) = some (.ok (.list (zs ++ [r])) (S ++ [zs ++ [r]])) := by
    show (match (S ++ [zs ++ [r]])[S.length]? with
      | some xs => some (Out.ok (PyData.list xs) (S ++ [zs ++ [r]]))
      | none => none) = _
    simp
  have h2 : atD (.list (zs ++ [r])) (.int (-1)) = some r := by
    show atI (zs ++ [r]) (-1) = _
    unfold atI ixN
    rw [if_neg (by decide), if_pos (by simp; omega)]
    simp
    have : ((zs.length : Int) + 1 + -1).toNat = zs.length := by omega
    have : (-1 + ((zs.length : Int) + 1)).toNat = zs.length := by omega
    rw [this]
    simp
  simp only [bnd, h1, onD, h2, lift]
  rfl
def rg (f : Int) (s : Sd) (y : PyData) : PyData := match y with
  | .str t => regD f s t
  | _ => .none
theorem right_states (k : Nat) [V : VB a b sh xh sc xc] (hV : Val f a b sh xh sc xc port) (he : IsEnd e) (L : List PyData) (w6 w7 w8 w9 w10 w11 : Option W) :
    wp (frW (sm (k + 10)) .seq (.nm 6) gS (renv f a b sh xh sc xc port L (some (.d (.str e))) (some (.l S.length)) w6 w7 w8 w9 w10 w11) [.d (.tuple words)]) (S ++ [[]]) fun g S' => S' = S ++ [regs f (sdOf e a b sh xh sc xc)] ∧ ∃ w6, g = .nx (renv f a b sh xh sc xc port L (some (.d (.str e))) (some (.l S.length)) w6 w7 w8 w9 w10 w11) := by
  refine wp_for (fun ys ρ S' => ∃ zs w6, zs ++ ys = words ∧ S' = S ++ [zs.map (rg f (sdOf e a b sh xh sc xc))] ∧ ρ = renv f a b sh xh sc xc port L (some (.d (.str e))) (some (.l S.length)) w6 w7 w8 w9 w10 w11) (xs := words) (g := []) rfl (by show 4 ≤ 100000; decide) ⟨[], _, rfl, rfl, rfl⟩ (fun _ _ _ _ i hi => by cases hi) ?_ ?_
  · rintro ρ' S' ⟨zs, w6, e1, rfl, rfl⟩
    rw [List.append_nil] at e1
    subst e1
    exact ⟨rfl, w6, rfl⟩
  · rintro x ys ρ S' ⟨zs, w6, e1, rfl, rfl⟩
    have hx : x ∈ words := by rw [← e1]; simp
    have ht : ∃ t : Str, x = .str t ∧ IsWord t := by
      simp only [List.mem_cons, List.not_mem_nil, or_false] at hx
      rcases hx with rfl | rfl | rfl | rfl
      · exact ⟨_, rfl, .inl rfl⟩
      · exact ⟨_, rfl, .inr (.inl rfl)⟩
      · exact ⟨_, rfl, .inr (.inr (.inl rfl))⟩
      · exact ⟨_, rfl, .inr (.inr (.inr rfl))⟩
    obtain ⟨t, rfl, ht⟩ := ht
    have h1 := e_state_region (k + 5) (f := f) (a := a) (b := b) (sh := sh) (xh := xh) (sc := sc) (xc := xc) (port := port) (e := e) (t := t) he ht hV
    have h2 := e_is_region (k + 3) (f := f) (.a (lf_first (sdOf e a b sh xh sc xc) t) (lf_second (sdOf e a b sh xh sc xc) t)) hV.f1 hV.f3
    have hz : zs.length ≤ 4 := by
      have := congrArg List.length e1
      simp at this
      omega
    simp
    refine wp_app (j := S.length) (by simp) ?_
    simp [h1]
    refine ⟨by omega, wp_of_eq (ix_last _ _ _) ?_⟩
    simp [h2]
    refine wp_of_eq (ix_last _ _ _) ?_
    simp
    exact ⟨zs ++ [.str t], by simpa using e1, by simp [rg, regD]⟩
end G20

namespace G20
open PySem PySem.Spec PyProof.Rows L2 DL
variable {N : Nat} {S T : Sto} {f a b sh xh sc xc port : Int} {e t : Str} {n m : Int}
theorem ix_both (S : Sto) (s : Sd) : ixW (.l S.length) (.d (.int 2)) (S ++ [regs f s]) = some (.ok (.d (regD f s "both")) (S ++ [regs f s])) := by
  unfold ixW
  have h1 : asD (.l S.length) (S ++ [regs f s]) = some (.ok (.list (regs f s)) (S ++ [regs f s])) := by
    show (match (S ++ [regs f s])[S.length]? with
      | some xs => some (Out.ok (PyData.list xs) (S ++ [regs f s]))
      | none => none) = _
    simp
  simp only [bnd, h1, onD, lift]
  rfl
theorem both_ne (s : Sd) : c2 .ne (regD f s "both") (regD f s "both") = some false := by
  simp [regD, first, second, c2, eqOk, SeqAt.shaped, PyData.canLay0, PyData.canLayAll0, PyData.depth, PyData.depthAll, PyData.eqv, PyData.eqvAll]
theorem right_ends (k : Nat) [V : VB a b sh xh sc xc] (hV : Val f a b sh xh sc xc port) {L : List PyData} (hL : ∀ d ∈ L, GA f d) (hl : L.length ≤ 1000) :
    wp (frW (sm (k + 10)) .seq (.nm 4) gE (renv f a b sh xh sc xc port L none none none none none none none none) [.d (.tuple [.str "head", .str "crank"])]) S fun g S' => ∃ K, S' = S ++ K ∧ ∃ w4 w5 w6 w7 w8 w9 w10, g = .nx (renv f a b sh xh sc xc port L w4 w5 w6 w7 w8 w9 w10 none) := by
  refine wp_for (fun ys ρ S' => (∀ y ∈ ys, ∃ e : Str, y = .str e ∧ IsEnd e) ∧ ∃ K, S' = S ++ K ∧ ∃ w4 w5 w6 w7 w8 w9 w10, ρ = renv f a b sh xh sc xc port L w4 w5 w6 w7 w8 w9 w10 none) (xs := [.str "head", .str "crank"]) (g := []) rfl (by show 2 ≤ 100000; decide) ⟨(by
      intro y hy
      simp only [List.mem_cons, List.not_mem_nil, or_false] at hy
      rcases hy with rfl | rfl
      · exact ⟨_, rfl, .inl rfl⟩
      · exact ⟨_, rfl, .inr rfl⟩), [], by simp, _, _, _, _, _, _, _, rfl⟩ (fun _ _ _ _ i hi => by cases hi) ?_ ?_
  · rintro ρ' S' ⟨_, K, rfl, w4, w5, w6, w7, w8, w9, w10, rfl⟩
    exact ⟨K, rfl, _, _, _, _, _, _, _, rfl⟩
  · rintro x ys ρ S' ⟨hy, K, rfl, w4, w5, w6, w7, w8, w9, w10, rfl⟩
    obtain ⟨e, rfl, he⟩ := hy x List.mem_cons_self
    have hy' : ∀ y ∈ ys, ∃ e : Str, y = .str e ∧ IsEnd e := fun y h => hy y (List.mem_cons_of_mem _ h)
    have h1 := e_state_region (k + 5) (f := f) (a := a) (b := b) (sh := sh) (xh := xh) (sc := sc) (xc := xc) (port := port) (e := e) (t := "both") he (.inr (.inr (.inl rfl))) hV
    generalize hS1 : S ++ K = S1
    simp
    refine wp_newL ?_
    simp [ex_fors]
    refine wp_mono (right_states (S := S1) k (f := f) (a := a) (b := b) (sh := sh) (xh := xh) (sc := sc) (xc := xc) (port := port) hV he L w6 w7 w8 w9 w10 none) ?_
    rintro _ S2 ⟨rfl, w6', rfl⟩
    have hb := both_ne (f := f) (sdOf e a b sh xh sc xc)
    have hbd : regD f (sdOf e a b sh xh sc xc) "both" = .tuple [.int f, andT (first (sdOf e a b sh xh sc xc) "both") (second (sdOf e a b sh xh sc xc) "both")] := rfl
    simp [permW, h1]
    refine wp_of_eq (ix_both _ _) ?_
    rw [hbd] at hb ⊢
    simp [hb]
    refine wp_mono (right_angles (S := S1 ++ [regs f (sdOf e a b sh xh sc xc)]) (j := S1.length) k (f := f) (a := a) (b := b) (sh := sh) (xh := xh) (sc := sc) (xc := xc) (port := port) (e := e) hV he (by simp) hL hl w6' w7 w8 w9 w10) ?_
    rintro _ S3 ⟨rfl, w7', w8', w9', rfl⟩
    simp
    subst hS1
    exact ⟨hy', K ++ [regs f (sdOf e a b sh xh sc xc)], by simp⟩
end G20

namespace G20
open PySem PySem.Spec PyProof.Rows L2 DL
variable {N : Nat} {S T : Sto} {f a b sh xh sc xc port : Int} {e t : Str} {n m : Int}
theorem ws_app {N : Nat} {S T : Sto} (h : WS N S T) (K : Sto) : WS N (S ++ K) (T ++ K) := by
  obtain ⟨r, c, t, rfl, h⟩ := h
  exact ⟨r, c, t, rfl, h⟩
def third (d : PyData) : PyData := match d with
  | .tuple [_, _, g] => g
  | _ => .none
theorem cut_mem {xs : List PyData} {lo hi : Option Int} {d : PyData} (h : d ∈ DL.cutD xs lo hi) : d ∈ xs := by
  unfold DL.cutD at h
  exact List.mem_of_mem_drop (List.mem_of_mem_take h)
theorem cut_len {xs : List PyData} {lo hi : Option Int} : (DL.cutD xs lo hi).length ≤ xs.length := by
  unfold DL.cutD
  simp
  omega
theorem l_right (k : Nat) (hN : N ≤ 10) (h : WS N S T) : wp ((sm (k + 12)).call 68 [.l 0]) S fun w S' => ∃ d, w = .d d ∧ d = .bool true ∧ WS (N + 120) S' T := by
  rw [r__law_right, c__law_right]
  refine wp_finD h ?_
  simp
  refine wp_mono (l_pick (k + 9) (by simp) (by simp) (by omega) h) ?_
  rintro _ S1 ⟨d, rfl, hd, hs1⟩
  have hd : ∃ f : Int, d = .int f ∧ 1 ≤ f ∧ f ≤ 3 := by
    simp only [List.mem_cons, List.not_mem_nil, or_false] at hd
    rcases hd with rfl | rfl | rfl <;> exact ⟨_, rfl, by decide, by decide⟩
  obtain ⟨f, rfl, hf, hf3⟩ := hd
  refine wp_mono (l_valve (k + 6) hf hf3 (by omega) hs1) ?_
  rintro _ S2 ⟨_, rfl, ⟨a, b, sh, xh, sc, xc, port, rfl, hV, ha, hb, hsh, hxh, hsc, hxc⟩, hs2⟩
  have V : VB a b sh xh sc xc := ⟨⟨ha⟩, ⟨hb⟩, ⟨hsh⟩, ⟨hxh⟩, ⟨hsc⟩, ⟨hxc⟩⟩
  refine wp_mono (l_angle (k + 6) hf hf3 (by omega) hs2) ?_
  rintro _ S3 ⟨d1, rfl, hd1, hs3⟩
  refine wp_mono (l_angle (k + 6) hf hf3 (by omega) hs3) ?_
  rintro _ S4 ⟨d2, rfl, hd2, hs4⟩
  simp [ev_cmpr]
  refine wp_mono (l_events (k + 8) hf hf3 ha hb hsh hxh hsc hxc S4) ?_
  rintro _ S5 ⟨rfl, es, rfl, hel, hev⟩
  have hc := cm_lst (Γ := sm (k + 11)) (p := .nm 10) (e := .idx (.var 10) (.cI 2)) (ρ0 := [some (.l 0), some (.d (.int f)), some (.d (Vd f a b sh xh sc xc port)), none, none, none, none, none, none, none, none, none]) third (xs := es) (by show es.length ≤ 100000; omega) (by
    intro x hx
    obtain ⟨x1, y1, g, rfl, hg⟩ := hev x hx
    exact ⟨_, by rw [asg_nm], by simp [third]⟩)
  have hw : wipeE [some (W.l 0), some (W.d (.int f)), some (W.d (Vd f a b sh xh sc xc port)), none, none, none, none, none, none, none, none, none] [10] = [some (W.l 0), some (W.d (.int f)), some (W.d (Vd f a b sh xh sc xc port)), none, none, none, none, none, none, none, none, none] := rfl
  rw [hw, hc]
  have hsl : slD (.list (es.map third)) none (some 4) = some (.list (DL.cutD (es.map third) none (some 4))) := rfl
  generalize hL2 : DL.cutD (es.map third) none (some 4) = L2 at hsl
  have hL2a : ∀ d ∈ L2, GA f d := fun d hd => by
    rw [← hL2] at hd
    obtain ⟨y, hy, rfl⟩ := List.mem_map.mp (cut_mem hd)
    obtain ⟨x1, y1, g, rfl, hg⟩ := hev y hy
    exact hg
  have hL2l : L2.length ≤ 8 := by
    rw [← hL2]
    have := cut_len (xs := es.map third) (lo := none) (hi := some 4)
    simp at this
    omega
  have hL : ∀ d ∈ d1 :: d2 :: L2, GA f d := fun d hd => by
    rcases List.mem_cons.mp hd with rfl | hd
    · exact hd1
    · rcases List.mem_cons.mp hd with rfl | hd
      · exact hd2
      · exact hL2a d hd
  have hadd : o2 .add (.list [d1, d2]) (.list L2) = some (.list (d1 :: d2 :: L2)) := o2_addL_ _ _ (by simp; omega)
  have hv := e_is_valve (k + 8) hV
  have hends := right_ends (S := S5) (k + 1) (f := f) (a := a) (b := b) (sh := sh) (xh := xh) (sc := sc) (xc := xc) (port := port) hV hL (by simp; omega)
  simp [hsl, hadd, hv, ex_fors]
  refine wp_mono hends ?_
  rintro _ S6 ⟨K, rfl, w4, w5, w6, w7, w8, w9, w10, rfl⟩
  simp
  refine wp_mono (l_slack_right k (f := f) (a := a) (b := b) (sh := sh) (xh := xh) (sc := sc) (xc := xc) (port := port) hV hL (by simp; omega) (by omega) (ws_app hs4 K)) ?_
  rintro _ S7 ⟨_, rfl, rfl, hs7⟩
  simp
  exact ⟨K, hs7.mono (by omega)⟩
end G20

namespace G20
open PySem PySem.Spec PyProof.Rows L2 DL
theorem l_rounds (k : Nat) (ns : List PyData) : ∃ m : Int, 2 ≤ m ∧ m ≤ 3 ∧ (sm (k + 1)).call 46 [.d (.list ns)] = re (.d (.int m)) := by
  rw [r__law_rounds, c__law_rounds]
  have h1 : ∀ i j : Int, b1 .max [.int i, .int j] = some (.int (if j > i then j else i)) := fun _ _ => rfl
  have h2 : ∀ i j : Int, b1 .min [.int i, .int j] = some (.int (if j < i then j else i)) := fun _ _ => rfl
  refine ⟨_, ?_, ?_, by simp [h1, h2]; rfl⟩ <;> (repeat' split) <;> omega
end G20

namespace G20
open PySem PySem.Spec PyProof.Rows L2 DL
abbrev mixE : Ex := .bin .mod (.blt .int [.bin .add (.bin .add (.bin .mul (.var 2) (.cI 52021)) (.bin .mod (.blt .int [.var 3]) (.cI 2147483587))) (.cI 101)]) (.cI 2147483587)
theorem l_well (k : Nat) (ns : List Int) {sp : Int} (hl : ns.length ≤ 63) (h0 : 0 ≤ sp) (h3 : sp ≤ 3) : wp ((sm (k + 1)).call 43 [.d (.list (ns.map PyData.int)), .d (.int sp)]) [] fun w S' => w = .l 0 ∧ WS 0 S' [] := by
  rw [r__law_well, c__law_well]
  have hcut : slD (.list (ns.map PyData.int)) none (some 63) = some (.list (DL.cutD (ns.map PyData.int) none (some 63))) := rfl
  have hmem : ∀ y ∈ DL.cutD (ns.map PyData.int) none (some 63), ∃ i : Int, y = .int i := fun y hy => by
    obtain ⟨i, _, rfl⟩ := List.mem_map.mp (cut_mem hy)
    exact ⟨i, rfl⟩
  have hlen : (DL.cutD (ns.map PyData.int) none (some 63)).length ≤ 63 := by
    have := cut_len (xs := ns.map PyData.int) (lo := none) (hi := some 63)
    simp at this
    omega
  generalize DL.cutD (ns.map PyData.int) none (some 63) = cs at *
  have hspb : Bd sp 2 := ⟨by omega⟩
  obtain ⟨ρ', ⟨_, mix, w3, hm0, hm1, rfl⟩, hr⟩ := frW_rel (Γ := sm k) (k := .seq) (p := .nm 3) (b := [.set 2 mixE]) (ws := [.d (.list cs)]) (xs := cs) (ρ := [some (.d (.list (ns.map PyData.int))), some (.d (.int sp)), some (.d (.int (70001 + 3001 * sp))), none, none, none])
    (fun ys ρ => (∀ y ∈ ys, ∃ i : Int, y = .int i) ∧ ∃ (mix : Int) (w3 : Option W), 0 ≤ mix ∧ mix < 2147483587 ∧ ρ = [some (.d (.list (ns.map PyData.int))), some (.d (.int sp)), some (.d (.int mix)), w3, none, none]) (fun _ => rfl) (by show cs.length ≤ 100000; omega) ⟨hmem, _, _, by omega, by omega, rfl⟩ (by
      rintro x ys ρ ⟨hy, mix, w3, hm0, hm1, rfl⟩
      obtain ⟨i, rfl⟩ := hy x List.mem_cons_self
      have hmb : Bd mix 31 := ⟨by omega⟩
      have m1 : o2 .mul (.int mix) (.int 52021) = some (.int (mix * 52021)) := o2_mul_ (by decide)
      have e := fm_pos (mix * 52021 + i.fmod 2147483587 + 101) (n := 2147483587) (by decide)
      exact ⟨_, [some (.d (.list (ns.map PyData.int))), some (.d (.int sp)), some (.d (.int ((mix * 52021 + i.fmod 2147483587 + 101).fmod 2147483587))), some (.d (.int i)), none, none], by rw [asg_nm], by simp [m1], ⟨fun y h => hy y (List.mem_cons_of_mem _ h), _, _, e.1, e.2, rfl⟩⟩)
  have p18 : o2 .pow (.int 10) (.int 18) = some (.int (10 ^ 18)) := by
    show (if (0 : Int) ≤ 18 ∧ (18 : Int) ≤ 1000 ∧ (10 : Int).natAbs < 2 ^ 64 then _ else none) = _
    rw [if_pos (by decide)]
    rfl
  have m0 : o2 .mul (.int 3001) (.int sp) = some (.int (3001 * sp)) := o2_mul_ (by decide)
  have hmb : Bd mix 31 := ⟨by omega⟩
  have m2 : o2 .mul (.int mix) (.int 30323) = some (.int (mix * 30323)) := o2_mul_ (by decide)
  have hown : ∃ own : Int, evE (sm k) (.ite (.cmp .lt (.var 1) (.blt .len [.var 0])) (.blt .int [.idx (.var 0) (.var 1)]) (.var 2)) [some (.d (.list (ns.map PyData.int))), some (.d (.int sp)), some (.d (.int mix)), w3, none, none] = re (.d (.int own)) := by
    by_cases hc : sp < (ns.length : Int)
    · have hz : sp.toNat < ns.length := by omega
      have hat : atD (.list (ns.map PyData.int)) (.int sp) = some (.int ns[sp.toNat]) := by
        show atI (ns.map PyData.int) sp = _
        unfold atI ixN
        rw [if_pos h0, if_pos (by simpa using hc)]
        simp [hz]
      exact ⟨_, by simp [hc, hat]; rfl⟩
    · exact ⟨mix, by simp [hc]⟩
  obtain ⟨own, hown⟩ := hown
  have e9 := fm_pos (mix * 30323 + own.fmod 2147483587 * 9001 + 5) (n := 2147483587) (by decide)
  have e8 := fm_pos own (n := 2147483587) (by decide)
  have hob : Bd (own.fmod 2147483587) 31 := ⟨by omega⟩
  have m3 : o2 .mul (.int (own.fmod 2147483587)) (.int 9001) = some (.int (own.fmod 2147483587 * 9001)) := o2_mul_ (by decide)
  refine wp_fin ?_
  have s1 : exS (sm k) (.set 2 (.bin .add (.cI 70001) (.bin .mul (.cI 3001) (.var 1)))) [some (.d (.list (ns.map PyData.int))), some (.d (.int sp)), none, none, none, none] = re (.nx [some (.d (.list (ns.map PyData.int))), some (.d (.int sp)), some (.d (.int (70001 + 3001 * sp))), none, none, none]) := by simp [m0]
  have s2 : exS (sm k) (.fors (.nm 3) .seq [.slc (.var 0) false .cN true (.cI 63)] [.set 2 mixE]) [some (.d (.list (ns.map PyData.int))), some (.d (.int sp)), some (.d (.int (70001 + 3001 * sp))), none, none, none] = re (.nx [some (.d (.list (ns.map PyData.int))), some (.d (.int sp)), some (.d (.int mix)), w3, none, none]) := by
    rw [ex_fors]
    simp [hcut]
    exact hr
  have s3 : ∀ e : Ex, evE (sm k) e [some (.d (.list (ns.map PyData.int))), some (.d (.int sp)), some (.d (.int mix)), w3, none, none] = re (.d (.int own)) → exS (sm k) (.set 4 e) [some (.d (.list (ns.map PyData.int))), some (.d (.int sp)), some (.d (.int mix)), w3, none, none] = re (.nx [some (.d (.list (ns.map PyData.int))), some (.d (.int sp)), some (.d (.int mix)), w3, some (.d (.int own)), none]) := fun e h => by
    rw [ex_set, h]; rfl
  rw [exs_cons, s1, bnd_re_, seqF_nx, exs_cons, s2, bnd_re_, seqF_nx, exs_cons, s3 _ hown, bnd_re_, seqF_nx]
  have hrest : ∃ r : Int, 0 ≤ r ∧ exS (sm k) (.set 5 (.ite (.or [.cmp .lt (.var 4) (.cI 0), .cmp .ge (.var 4) (.bin .pow (.cI 10) (.cI 18))]) (.blt .abs [.var 4]) (.cI 0))) [some (.d (.list (ns.map PyData.int))), some (.d (.int sp)), some (.d (.int mix)), w3, some (.d (.int own)), none] = re (.nx [some (.d (.list (ns.map PyData.int))), some (.d (.int sp)), some (.d (.int mix)), w3, some (.d (.int own)), some (.d (.int r))]) := by
    refine ⟨_, ?_, by simp [p18]; rfl⟩
    split <;> omega
  obtain ⟨r, hr0, s4⟩ := hrest
  rw [exs_cons, s4, bnd_re_, seqF_nx, exs_cons]
  have rl : ∀ e ρ, exS (sm k) (.retL e) ρ = bnd (evE (sm k) e ρ) (fun w => match w with
    | .l j => re (.rl j)
    | _ => no) := fun e ρ => by first | (rw [exS]; done) | (rw [exS]; rfl)
  rw [rl]
  simp [m2, m3]
  refine wp_newL ?_
  simp
  exact ⟨r, _, 0, rfl, hr0, e9.1, e9.2, by decide, by decide⟩
end G20

namespace G20
open PySem PySem.Spec PyProof.Rows L2 DL
theorem ws_one {N : Nat} {S : Sto} (h : WS N S []) : S.length = 1 := by
  obtain ⟨r, c, t, rfl, _⟩ := h
  rfl
theorem ex_iffT {Γ : Sm} {t : Ex} {a b : List Sx} {ρ : Env'} {S : Sto} {Q : Fl → Sto → Prop} (h : wp (bnd (evE Γ t ρ) truthB) S fun k S' => wp (if k = true then exSs Γ a ρ else exSs Γ b ρ) (S'.take S.length) Q) : wp (exS Γ (.iffT t a b) ρ) S Q := by
  obtain ⟨k, S', h1, f, S2, h2, q⟩ := h
  refine ⟨f, S2, ?_, q⟩
  rw [exS]
  show (bnd (bnd (evE Γ t ρ) truthB) _) S = _
  unfold bnd at h1 ⊢
  rw [h1]
  exact h2
theorem l_law (k : Nat) (ns : List Int) (hl : ns.length ≤ 63) : (sm (k + 13)).call 69 [.d (.list (ns.map PyData.int))] [] = some (.ok (.d (.bool true)) []) := by
  have key : wp ((sm (k + 13)).call 69 [.d (.list (ns.map PyData.int))]) [] fun w S' => w = .d (.bool true) ∧ S' = [] := by
    rw [r_law, c_law]
    obtain ⟨m, hm2, hm3, hm⟩ := l_rounds (k + 11) (ns.map PyData.int)
    refine wp_fin (wp_mono (Q := fun g S' => g = .rt (.d (.bool true)) ∧ S' = []) ?_ ?_)
    · simp [ex_fors, hm]
      have hsm : small62 m = true := by unfold small62; simp; omega
      refine wp_for (fun ys ρ S' => S' = [] ∧ (∀ y ∈ ys, ∃ i : Int, y = .int i ∧ 0 ≤ i ∧ i ≤ 3) ∧ ∃ w1, ρ = [some (.d (.list (ns.map PyData.int))), w1]) (xs := rngUp 0 m.toNat) (g := []) (by
        show (if small62 m = true then some (rngUp 0 m.toNat, ([] : List Nat)) else none) = _
        rw [if_pos hsm]) (by unfold rngUp; simp; show m ≤ 100000; omega) ⟨rfl, (by
          intro y hy
          unfold rngUp at hy
          obtain ⟨i, hi, rfl⟩ := List.mem_map.mp hy
          have := List.mem_range.mp hi
          exact ⟨_, rfl, by omega, by omega⟩), _, rfl⟩ (fun _ _ _ _ i hi => by cases hi) ?_ ?_
      · rintro ρ' S' ⟨rfl, _, w1, rfl⟩
        simp
      · rintro x ys ρ S' ⟨rfl, hy, w1, rfl⟩
        obtain ⟨i, rfl, h0, h3⟩ := hy x List.mem_cons_self
        simp
        refine ex_iffT ?_
        simp
        refine wp_mono (l_well (k + 11) ns hl h0 h3) ?_
        rintro _ S1 ⟨rfl, hs1⟩
        refine wp_mono (l_right k (by omega) hs1) ?_
        rintro _ S2 ⟨_, rfl, rfl, hs2⟩
        simp
        exact fun y hh => hy y (List.mem_cons_of_mem _ hh)
    · rintro g S' ⟨rfl, rfl⟩
      exact ⟨rfl, rfl⟩
  obtain ⟨w, S', h1, rfl, rfl⟩ := key
  exact h1
end G20

namespace G20
open PySem PySem.Spec PyProof.Rows L2 DL
theorem lawP (ns : List Int) (hl : ns.length ≤ 63) : (sm 30).call 69 [.d (.list (ns.map PyData.int))] [] = some (.ok (.d (.bool true)) []) := l_law 17 ns hl
end G20
open PySem PySem.W PySem.Calls PyProof.Rows
theorem PySem.Challenge.cw_steamgears_k20_whole_states_of_valves_holds : PySem.Challenge.rw_steamgears_k20_whole_states_of_valves.Holds := by
  w_on; o_law
  refine HandSHeadRun.head_imp (r := G20.R) (q := view G20.R.prog [0, 93]) (H := G20.hk) (ob := DL.obD G20.as G20.T G20.gls G20.fnD) (M := 4317) (loose := G20.nms) (d := HandSHeadRun.topDef G20.R.prog 93) (kwd := []) (DL.obD_eq _ _ _ _)
    G20.run (by kernel_rfl) (by kernel_rfl) (by kernel_rfl) (by rfl) (by first | assumption | decide +kernel) (by decide +kernel) ⟨rfl, rfl, rfl, rfl, rfl, by decide +kernel⟩ ?hw ?hc
  case hw => w_witness2
  case hc =>
    refine DL.walkG (l := PySem.Challenge.rw_steamgears_k20_whole_states_of_valves) (n := 63) (k := 30) (x := "script") rfl (by decide) (by kernel_rfl) ⟨rfl, by decide, by decide⟩ ?F
    intro w mg fa h Y G hmg0
    obtain ⟨K, KX, c, s⟩ := Y
    have hmg : mg ("law" : PySem.Str) = some (.ref fa) := by
      have e : (HandSHeadRun.topDef G20.R.prog 93).name = ("law" : PySem.Str) := by kernel_rfl
      rw [← e]
      exact hmg0
    obtain ⟨fd, F⟩ := s.def_ 69 (d := G20.dd 93 "law" "law") rfl
    have e := hmg.symm.trans (DL.okX_fn KX G c (f := 69) (by decide))
    cases e
    have b := L2.FunD.bindsA (ps := ["script"]) F fun _ _ _ _ _ _ us hl => match us, hl with | [_], _ => rfl
    refine ⟨K, fd, fun _ _ _ _ _ _ => False, (G20.sm 30).call 69, KX, DL.okX_no c, fun s v => b s [v] rfl, fun ns hl _ => G20.lawP ns hl, fun base KB GB => ?_⟩
    have hf2 := G20.facts (P := (PySem.Challenge.rw_steamgears_k20_whole_states_of_valves).prog) (w := w) (mg := mg) KX G c s
    have IH := DL.fns (base := base) (xr := fun _ _ _ _ _ _ => False) (fun _ _ _ _ _ _ _ _ x => x) (DL.okX_glo KX G c) hf2
    show DL.FnG _ _ _ _ _ _ (29 + 1) _ _ _ _
    exact DL.fn_G (f := 69) (sm := G20.sm 29) F (DL.scope_by (ps := ["script"]) (N := G20.N_law) (by decide +kernel)) (by decide +kernel) G20.k_law (fun _ _ _ _ _ _ _ _ x => x) (DL.okX_glo KX G c) (DL.smk_glob _ _ _) (IH 29)
