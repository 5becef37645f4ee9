import PyProof.Rows.All
import Wide.All
import OpenK.AllK
import Wide.FinOn
import HandS.ForMost
import HandS.Exc
import HandS.ExcOwn
import HandS.CallSlots
import HandS.Wide
import HandS.WideBits
import HandS.Gcd
import HandS.IsInst
import HandS.Style
import HandS.Zip
import HandS.TupAny
import HandS.Defaults
import HandS.WordsExc
import HandS.NoneIn
import HandS.Deep
import KE.KMathG
import PyProof.ReprBulk
import HandS.Walk
import HandS.ExcInit
import HandS.ExcField
import HandS.Small
import KE.KExcIs
import HandS.ExcIs
import KE.KStateDown
import HandS.Head0
import HandS.Head1
import HandS.Head2
import HandS.Head3
import HandS.HeadEnd
import HandS.EndBits
import HandS.HeadHook1
import HandS.HeadHook2
import Lean
import PySem.Challenge.RW_steamgears_k07_whole_places_between
set_option Elab.async false
set_option linter.all false
set_option maxRecDepth 100000
set_option maxHeartbeats 0
namespace DL
open PySem PySem.Spec PyProof.Rows L2

inductive W where
  | d (x : PyData)
  | l (j : Nat)
  | x (a : Addr) (q : Option (Addr × PyData))
abbrev Sto := List (List PyData)
abbrev Env' := List (Option W)
inductive Out (α : Type) where
  | ok (a : α) (S : Sto)
  | exc (k : Nat) (a : PyData) (S : Sto)
abbrev Mo (α : Type) := Sto → Option (Out α)
def bnd {α β : Type} (m : Mo α) (f : α → Mo β) : Mo β := fun S => match m S with
  | none => none
  | some (.exc k a S') => some (.exc k a S')
  | some (.ok x S') => f x S'
def re {α : Type} (x : α) : Mo α := fun S => some (.ok x S)
def no {α : Type} : Mo α := fun _ => none
def lift {α : Type} (o : Option α) : Mo α := fun S => match o with
  | some x => some (.ok x S)
  | none => none

structure Mu where
  l : List Addr
  h : List Addr
mutual
inductive RD (K : PySem.W.Frag) (μ : Mu) (H : Hp) : PyData → V → Prop
  | non : RD K μ H .none .non
  | bl (b : Bool) : RD K μ H (.bool b) (.bl b)
  | int (i : Int) : RD K μ H (.int i) (.int i)
  | str (x : Str) : RD K μ H (.str x) (.str x)
  | tup {a : Addr} {vs : List V} {ds : List PyData} : SqT K H a vs → RDs K μ H ds vs → RD K μ H (.tuple ds) (.ref a)
  | lst {a : Addr} {vs : List V} {ds : List PyData} : Rd H a (.lst vs) → a ∉ μ.l → a ∉ μ.h → RDs K μ H ds vs → RD K μ H (.list ds) (.ref a)
  | dct {a : Addr} : Rd H a (.dK []) → RD K μ H (.dict []) (.ref a)
inductive RDs (K : PySem.W.Frag) (μ : Mu) (H : Hp) : List PyData → List V → Prop
  | nil : RDs K μ H [] []
  | cons {d : PyData} {v : V} {ds : List PyData} {vs : List V} : RD K μ H d v → RDs K μ H ds vs → RDs K μ H (d :: ds) (v :: vs)
end
inductive RR (K : PySem.W.Frag) (μ : Mu) (H : Hp) : PyData → V → Prop
  | d {x : PyData} {v : V} : RD K μ H x v → RR K μ H x v
  | l {a : Addr} {vs : List V} {ds : List PyData} : H a = some (.lst vs) → RDs K μ H ds vs → RR K μ H (.list ds) (.ref a)
structure Stp (μ : Mu) (H : Hp) (μ' : Mu) (H' : Hp) : Prop where
  pre : ∃ t, μ'.l = μ.l ++ t
  keep : ∀ a o, H a = some o → a ∉ μ.l → H' a = some o
  new : ∀ a ∈ μ'.l, a ∈ μ.l ∨ H a = none
  old : ∀ a ∈ μ.l, ∃ vs, H a = some (.lst vs)
  hnew : ∀ a ∈ μ'.h, a ∈ μ.h ∨ H a = none
  hsub : ∀ a ∈ μ.h, a ∈ μ'.h
structure RS (K : PySem.W.Frag) (μ : Mu) (S : Sto) (H : Hp) : Prop where
  len : μ.l.length = S.length
  nd : μ.l.Nodup
  at_ : ∀ (j : Nat) (a : Addr) (xs : List PyData), μ.l[j]? = some a → S[j]? = some xs → ∃ vs, H a = some (.lst vs) ∧ RDs K μ H xs vs
  hid : ∀ a ∈ μ.h, a ∉ μ.l ∧ ∃ vs, H a = some (.lst vs)
def RW (K : PySem.W.Frag) (μ : Mu) (H : Hp) : W → V → Prop
  | .d x, v => RD K μ H x v
  | .l j, v => ∃ a, μ.l[j]? = some a ∧ v = .ref a
  | .x a q, v => v = .ref a ∧ ∀ dd p, q = some (dd, p) → ∃ u, H dd = some (.xd [(("given" : Str), u)]) ∧ RD K μ H p u
structure RE (K : PySem.W.Frag) (μ : Mu) (H : Hp) (ρ : Env') (σ : L2.St) : Prop where
  len : ρ.length = σ.length
  at_ : ∀ (i : Nat) (w : W), ρ[i]? = some (some w) → ∃ v, σ[i]? = some (some v) ∧ RW K μ H w v
inductive RWs (K : PySem.W.Frag) (μ : Mu) (H : Hp) : List W → List V → Prop
  | nil : RWs K μ H [] []
  | cons {w : W} {v : V} {ws : List W} {vs : List V} : RW K μ H w v → RWs K μ H ws vs → RWs K μ H (w :: ws) (v :: vs)

section
variable {K : PySem.W.Frag} {μ μ' μ2 : Mu} {H H' H2 : Hp} {S S' : Sto}
structure Gen (K : PySem.W.Frag) (μ : Mu) (H : Hp) (μ' : Mu) (H' : Hp) : Prop where
  t : ∀ a vs, SqT K H a vs → SqT K H' a vs
  l : ∀ a vs, Rd H a (.lst vs) → a ∉ μ.l → a ∉ μ.h → Rd H' a (.lst vs) ∧ a ∉ μ'.l ∧ a ∉ μ'.h
  k : ∀ a, Rd H a (.dK []) → Rd H' a (.dK [])
mutual
theorem RD.gen (s : Gen K μ H μ' H') : ∀ (d : PyData) (v : V), RD K μ H d v → RD K μ' H' d v
  | .none, _, .non => .non
  | .bool _, _, .bl b => .bl b
  | .int _, _, .int i => .int i
  | .str _, _, .str x => .str x
  | .tuple ds, _, .tup h r => .tup (s.t _ _ h) (RDs.gen s ds _ r)
  | .list ds, _, .lst h n m r => .lst (s.l _ _ h n m).1 (s.l _ _ h n m).2.1 (s.l _ _ h n m).2.2 (RDs.gen s ds _ r)
  | .dict _, _, .dct h => .dct (s.k _ h)
theorem RDs.gen (s : Gen K μ H μ' H') : ∀ (ds : List PyData) (vs : List V), RDs K μ H ds vs → RDs K μ' H' ds vs
  | [], _, .nil => .nil
  | d :: ds, _, .cons h t => .cons (RD.gen s d _ h) (RDs.gen s ds _ t)
end
theorem gen_of (hk : ∀ a o, H a = some o → H' a = some o ∨ ((a ∈ μ.l ∨ a ∈ μ.h) ∧ ∃ vs, o = .lst vs)) (hn : ∀ a, (a ∈ μ'.l ∨ a ∈ μ'.h) → a ∈ μ.l ∨ a ∈ μ.h ∨ H a = none) : Gen K μ H μ' H' := by
  have rd : ∀ a o, (∀ vs, o ≠ .lst vs) → Rd H a o → Rd H' a o := fun a o no h => by
    rcases h with h | ⟨c, h⟩
    · rcases hk a _ h with q | ⟨_, vs, e⟩
      · exact .inl q
      · exact absurd e (no vs)
    · rcases hk a _ h with q | ⟨_, vs, e⟩
      · exact .inr ⟨c, q⟩
      · cases e
  refine ⟨fun a vs h => ?_, fun a vs h n m => ?_, fun a h => rd a _ (by simp) h⟩
  · rcases h with h | h
    · exact .inl (rd a _ (by simp) h)
    · exact .inr h
  · have hH : H a ≠ none := by
      rcases h with h | ⟨c, h⟩ <;> (rw [h]; simp)
    have q : Rd H' a (.lst vs) := by
      rcases h with h | ⟨c, h⟩
      · rcases hk a _ h with q | ⟨z | z, _⟩
        · exact .inl q
        · exact absurd z n
        · exact absurd z m
      · rcases hk a _ h with q | ⟨z | z, _⟩
        · exact .inr ⟨c, q⟩
        · exact absurd z n
        · exact absurd z m
    refine ⟨q, fun z => ?_, fun z => ?_⟩
    · rcases hn a (.inl z) with q | q | q
      · exact n q
      · exact m q
      · exact hH q
    · rcases hn a (.inr z) with q | q | q
      · exact n q
      · exact m q
      · exact hH q
theorem Stp.gen (s : Stp μ H μ' H') : Gen K μ H μ' H' := gen_of (fun a o h => by
  by_cases hm : a ∈ μ.l
  · obtain ⟨vs, e⟩ := s.old a hm
    rw [h] at e; cases e
    exact .inr ⟨.inl hm, vs, rfl⟩
  · exact .inl (s.keep a o h hm)) fun a h => by
  rcases h with h | h
  · rcases s.new a h with q | q
    · exact .inl q
    · exact .inr (.inr q)
  · rcases s.hnew a h with q | q
    · exact .inr (.inl q)
    · exact .inr (.inr q)
theorem Stp.sqT (s : Stp μ H μ' H') {a : Addr} {vs : List V} (h : SqT K H a vs) : SqT K H' a vs := (s.gen (K := K)).t a vs h
theorem Stp.rdL (s : Stp μ H μ' H') {a : Addr} {vs : List V} (h : Rd H a (.lst vs)) (n : a ∉ μ.l) : Rd H' a (.lst vs) := by
  rcases h with h | ⟨c, h⟩
  · exact .inl (s.keep a _ h n)
  · exact .inr ⟨c, s.keep a _ h n⟩
theorem RD.stp (s : Stp μ H μ' H') : ∀ (d : PyData) (v : V), RD K μ H d v → RD K μ' H' d v := RD.gen s.gen
theorem RDs.stp (s : Stp μ H μ' H') : ∀ (ds : List PyData) (vs : List V), RDs K μ H ds vs → RDs K μ' H' ds vs := RDs.gen s.gen
theorem gen_less (sub : ∀ a, (a ∈ μ'.l ∨ a ∈ μ'.h) → a ∈ μ.l ∨ a ∈ μ.h) : Gen K μ H μ' H := gen_of (fun _ _ h => .inl h) fun a h => by
  rcases sub a h with q | q
  · exact .inl q
  · exact .inr (.inl q)
theorem RDs.length : ∀ {ds : List PyData} {vs : List V}, RDs K μ H ds vs → ds.length = vs.length
  | _, _, .nil => rfl
  | _, _, .cons _ t => congrArg Nat.succ (RDs.length t)
theorem RDs.get : ∀ {ds : List PyData} {vs : List V} {i : Nat} {d : PyData}, RDs K μ H ds vs → ds[i]? = some d → ∃ v, vs[i]? = some v ∧ RD K μ H d v
  | _, _, _, _, .nil, e => by simp at e
  | _, _, 0, _, .cons h _, e => by simp at e; subst e; exact ⟨_, rfl, h⟩
  | _, _, i + 1, d, .cons _ t, e => by
    obtain ⟨v, a, b⟩ := RDs.get (i := i) (d := d) t (by simpa using e)
    exact ⟨v, by simpa using a, b⟩
theorem RDs.append : ∀ {ds es : List PyData} {vs ws : List V}, RDs K μ H ds vs → RDs K μ H es ws → RDs K μ H (ds ++ es) (vs ++ ws)
  | _, _, _, _, .nil, q => q
  | _, _, _, _, .cons h t, q => .cons h (RDs.append t q)
theorem RDs.take : ∀ {ds : List PyData} {vs : List V} (n : Nat), RDs K μ H ds vs → RDs K μ H (ds.take n) (vs.take n)
  | _, _, 0, _ => .nil
  | _, _, _ + 1, .nil => .nil
  | _, _, n + 1, .cons h t => .cons h (RDs.take n t)
theorem RDs.drop : ∀ {ds : List PyData} {vs : List V} (n : Nat), RDs K μ H ds vs → RDs K μ H (ds.drop n) (vs.drop n)
  | _, _, 0, h => h
  | _, _, _ + 1, .nil => .nil
  | _, _, n + 1, .cons _ t => RDs.drop n t
theorem RDs.set : ∀ {ds : List PyData} {vs : List V} {d : PyData} {v : V} (i : Nat), RD K μ H d v → RDs K μ H ds vs → RDs K μ H (ds.set i d) (vs.set i v)
  | _, _, _, _, _, _, .nil => .nil
  | _, _, _, _, 0, q, .cons _ t => .cons q t
  | _, _, _, _, i + 1, q, .cons h t => .cons h (RDs.set i q t)
theorem Stp.refl (hs : RS K μ S H) : Stp μ H μ H := ⟨⟨[], by simp⟩, fun _ _ h _ => h, fun _ h => .inl h, fun a ha => by
  obtain ⟨j, hj⟩ := List.getElem?_of_mem ha
  have hl : j < S.length := by rw [← hs.len]; exact (List.getElem?_eq_some_iff.mp hj).1
  obtain ⟨vs, e, _⟩ := hs.at_ j a S[j] hj (List.getElem?_eq_getElem hl)
  exact ⟨vs, e⟩, fun _ h => .inl h, fun _ h => h⟩
theorem RS.lstAt (hs : RS K μ S H) : ∀ a ∈ μ.l, ∃ vs, H a = some (.lst vs) := (Stp.refl hs).old
theorem Stp.trans (a : Stp μ H μ' H') (b : Stp μ' H' μ2 H2) : Stp μ H μ2 H2 where
  pre := by
    obtain ⟨t, e⟩ := a.pre
    obtain ⟨t', e'⟩ := b.pre
    exact ⟨t ++ t', by rw [e', e, List.append_assoc]⟩
  keep := fun x o h n => b.keep x o (a.keep x o h n) fun z => by
    rcases a.new x z with q | q
    · exact n q
    · rw [h] at q; cases q
  new := fun x hx => by
    by_cases hm : x ∈ μ.l
    · exact .inl hm
    · rcases b.new x hx with q | q
      · exact a.new x q
      · cases e : H x with
        | none => exact .inr rfl
        | some o => rw [a.keep x o e hm] at q; cases q
  old := a.old
  hnew := fun x hx => by
    rcases b.hnew x hx with q | q
    · exact a.hnew x q
    · cases e : H x with
      | none => exact .inr rfl
      | some o =>
        by_cases hm : x ∈ μ.l
        · obtain ⟨t, e3⟩ := a.pre
          obtain ⟨vs, e2⟩ := b.old x (by rw [e3]; exact List.mem_append_left _ hm)
          rw [e2] at q; cases q
        · rw [a.keep x o e hm] at q; cases q
  hsub := fun x hx => b.hsub x (a.hsub x hx)
theorem RW.stp (s : Stp μ H μ' H') {w : W} {v : V} (h : RW K μ H w v) : RW K μ' H' w v := by
  cases w with
  | d x => exact RD.stp s x v h
  | l j =>
    obtain ⟨a, e, q⟩ := h
    obtain ⟨t, z⟩ := s.pre
    refine ⟨a, ?_, q⟩
    rw [z, List.getElem?_append_left (List.getElem?_eq_some_iff.mp e).1]
    exact e
  | x a q =>
    obtain ⟨e, h⟩ := h
    refine ⟨e, fun dd p eq => ?_⟩
    obtain ⟨u, h1, h2⟩ := h dd p eq
    refine ⟨u, s.keep dd _ h1 fun z => ?_, RD.stp s p u h2⟩
    obtain ⟨vs, e2⟩ := s.old dd z
    rw [h1] at e2
    cases e2
theorem RWs.stp (s : Stp μ H μ' H') : ∀ {ws : List W} {vs : List V}, RWs K μ H ws vs → RWs K μ' H' ws vs
  | _, _, .nil => .nil
  | _, _, .cons h t => .cons (h.stp s) (RWs.stp s t)
theorem RE.stp {ρ : Env'} {σ : L2.St} (s : Stp μ H μ' H') (h : RE K μ H ρ σ) : RE K μ' H' ρ σ := ⟨h.len, fun i w e => by
  obtain ⟨v, a, b⟩ := h.at_ i w e
  exact ⟨v, a, b.stp s⟩⟩
theorem RE.set {ρ : Env'} {σ : L2.St} {i : Nat} {w : W} {v : V} (h : RE K μ H ρ σ) (r : RW K μ H w v) : RE K μ H (ρ.set i (some w)) (σ.set i (some v)) := by
  refine ⟨by simpa using h.len, fun j u e => ?_⟩
  by_cases hj : i = j
  · subst hj
    have hl : i < ρ.length := by
      have := (List.getElem?_eq_some_iff.mp e).1
      simpa using this
    rw [List.getElem?_set_self hl] at e
    cases e
    exact ⟨v, List.getElem?_set_self (by rw [← h.len]; exact hl), r⟩
  · rw [List.getElem?_set_ne hj] at e ⊢
    exact h.at_ j u e
theorem RE.clear {ρ : Env'} {σ : L2.St} {i : Nat} (h : RE K μ H ρ σ) : RE K μ H (ρ.set i none) (σ.set i none) := by
  refine ⟨by simpa using h.len, fun j u e => ?_⟩
  by_cases hj : i = j
  · subst hj
    have hl : i < ρ.length := by
      have := (List.getElem?_eq_some_iff.mp e).1
      simpa using this
    rw [List.getElem?_set_self hl] at e
    cases e
  · rw [List.getElem?_set_ne hj] at e ⊢
    exact h.at_ j u e
theorem fresh_stp (hs : RS K μ S H) {p : Addr} {o : HO} (hp : H p = none) : Stp μ H μ (upd H p o) ∧ RS K μ S (upd H p o) ∧ p ∉ μ.l ∧ p ∉ μ.h := by
  have hn : p ∉ μ.l := fun z => by
    obtain ⟨vs, e⟩ := hs.lstAt p z
    rw [hp] at e; cases e
  have hm : p ∉ μ.h := fun z => by
    obtain ⟨_, vs, e⟩ := hs.hid p z
    rw [hp] at e; cases e
  have st : Stp μ H μ (upd H p o) := ⟨⟨[], by simp⟩, fun a u h _ => by rw [upd_ne (ne_of_none h hp)]; exact h, fun _ h => .inl h, hs.lstAt, fun _ h => .inl h, fun _ h => h⟩
  refine ⟨st, ⟨hs.len, hs.nd, fun j a xs e1 e2 => ?_, fun a ha => ?_⟩, hn, hm⟩
  · obtain ⟨vs, a1, a2⟩ := hs.at_ j a xs e1 e2
    exact ⟨vs, by rw [upd_ne (ne_of_none a1 hp)]; exact a1, RDs.stp st xs vs a2⟩
  · obtain ⟨h1, vs, h2⟩ := hs.hid a ha
    exact ⟨h1, vs, by rw [upd_ne (ne_of_none h2 hp)]; exact h2⟩
theorem fresh_loc (hs : RS K μ S H) {p : Addr} {vs : List V} {xs : List PyData} (hp : H p = none) (r : RDs K μ H xs vs) :
    Stp μ H ⟨μ.l ++ [p], μ.h⟩ (upd H p (.lst vs)) ∧ RS K ⟨μ.l ++ [p], μ.h⟩ (S ++ [xs]) (upd H p (.lst vs)) ∧ RW K ⟨μ.l ++ [p], μ.h⟩ (upd H p (.lst vs)) (.l S.length) (.ref p) := by
  have hn : p ∉ μ.l := fun z => by
    obtain ⟨us, e⟩ := hs.lstAt p z
    rw [hp] at e; cases e
  have hm : p ∉ μ.h := fun z => by
    obtain ⟨_, us, e⟩ := hs.hid p z
    rw [hp] at e; cases e
  have st : Stp μ H ⟨μ.l ++ [p], μ.h⟩ (upd H p (.lst vs)) := ⟨⟨[p], rfl⟩, fun a u h _ => by rw [upd_ne (ne_of_none h hp)]; exact h, fun a ha => by
    rcases List.mem_append.mp ha with q | q
    · exact .inl q
    · have : a = p := by simpa using q
      subst this; exact .inr hp, hs.lstAt, fun _ h => .inl h, fun _ h => h⟩
  refine ⟨st, ⟨by simp [hs.len], List.nodup_append.mpr ⟨hs.nd, by simp, fun a ha b hb => ?_⟩, fun j a ys e1 e2 => ?_, fun a ha => ?_⟩, p, ?_, rfl⟩
  · have : b = p := by simpa using hb
    subst this
    rintro rfl
    exact hn ha
  · by_cases hj : j < S.length
    · rw [List.getElem?_append_left (by rw [hs.len]; exact hj)] at e1
      rw [List.getElem?_append_left hj] at e2
      obtain ⟨us, a1, a2⟩ := hs.at_ j a ys e1 e2
      exact ⟨us, by rw [upd_ne (ne_of_none a1 hp)]; exact a1, RDs.stp st ys us a2⟩
    · have hj2 : j = S.length := by
        have := (List.getElem?_eq_some_iff.mp e2).1
        simp at this
        omega
      subst hj2
      rw [← hs.len] at e1
      simp at e1 e2
      subst e1 e2
      exact ⟨vs, upd_same, RDs.stp st xs vs r⟩
  · obtain ⟨h1, us, h2⟩ := hs.hid a ha
    refine ⟨fun z => ?_, us, by rw [upd_ne (ne_of_none h2 hp)]; exact h2⟩
    rcases List.mem_append.mp z with q | q
    · exact h1 q
    · have : a = p := by simpa using q
      subst this
      exact hm ha
  · show (μ.l ++ [p])[S.length]? = some p
    rw [← hs.len]; simp
theorem write_loc (hs : RS K μ S H) {j : Nat} {a : Addr} {ys : List PyData} {us : List V} (ha : μ.l[j]? = some a) (r : RDs K μ H ys us) :
    Stp μ H μ (upd H a (.lst us)) ∧ RS K μ (S.set j ys) (upd H a (.lst us)) := by
  have ham : a ∈ μ.l := List.mem_of_getElem? ha
  have st : Stp μ H μ (upd H a (.lst us)) := ⟨⟨[], by simp⟩, fun b o h n => by
    rw [upd_ne (fun z => n (by rw [z]; exact ham))]; exact h, fun _ h => .inl h, hs.lstAt, fun _ h => .inl h, fun _ h => h⟩
  refine ⟨st, ⟨by simpa using hs.len, hs.nd, fun i b xs e1 e2 => ?_, fun b hb => ?_⟩⟩
  · by_cases hij : j = i
    · subst hij
      rw [ha] at e1; cases e1
      have hl : j < S.length := by
        have := (List.getElem?_eq_some_iff.mp e2).1
        simpa using this
      rw [List.getElem?_set_self hl] at e2
      cases e2
      exact ⟨us, upd_same, RDs.stp st ys us r⟩
    · rw [List.getElem?_set_ne hij] at e2
      obtain ⟨vs, a1, a2⟩ := hs.at_ i b xs e1 e2
      refine ⟨vs, ?_, RDs.stp st xs vs a2⟩
      rw [upd_ne]
      · exact a1
      · rintro rfl
        obtain ⟨h1, q1⟩ := List.getElem?_eq_some_iff.mp ha
        obtain ⟨h2, q2⟩ := List.getElem?_eq_some_iff.mp e1
        exact hij ((List.getElem_inj hs.nd).mp (q1.trans q2.symm))
  · obtain ⟨h1, vs, h2⟩ := hs.hid b hb
    refine ⟨h1, vs, ?_⟩
    rw [upd_ne (fun z => h1 (by rw [z]; exact ham))]
    exact h2
theorem hid_gen {D : Addr} {us : List V} (hd : D ∈ μ.h) (hD : ∃ vs, H D = some (.lst vs)) : Gen K μ H μ (upd H D (.lst us)) := gen_of (fun a o h => by
  by_cases e : a = D
  · subst e
    obtain ⟨vs, q⟩ := hD
    rw [h] at q; cases q
    exact .inr ⟨.inr hd, vs, rfl⟩
  · exact .inl (by rw [upd_ne e]; exact h)) fun a h => by
  rcases h with q | q
  · exact .inl q
  · exact .inr (.inl q)
theorem hid_write (hs : RS K μ S H) {D : Addr} {us : List V} (hd : D ∈ μ.h) : RS K μ S (upd H D (.lst us)) := by
  obtain ⟨h1, h2⟩ := hs.hid D hd
  have g : Gen K μ H μ (upd H D (.lst us)) := hid_gen hd h2
  refine ⟨hs.len, hs.nd, fun j a xs e1 e2 => ?_, fun a ha => ?_⟩
  · obtain ⟨vs, a1, a2⟩ := hs.at_ j a xs e1 e2
    refine ⟨vs, ?_, RDs.gen g xs vs a2⟩
    rw [upd_ne]
    · exact a1
    · rintro rfl
      exact h1 (List.mem_of_getElem? e1)
  · obtain ⟨h3, vs, h4⟩ := hs.hid a ha
    refine ⟨h3, ?_⟩
    by_cases e : a = D
    · subst e; exact ⟨us, upd_same⟩
    · exact ⟨vs, by rw [upd_ne e]; exact h4⟩
end
end DL

namespace DL
open PySem PySem.Spec PyProof.Rows L2

abbrev XRel := Nat → PyData → Mu → Hp → Value → Option Addr → Prop
section
variable (K : PySem.W.Frag) (xr : XRel) (Wx : WX)
def Fi {α β : Type} (R : Mu → Hp → α → β → Prop) (μ : Mu) (H : Hp) (σ : L2.St) (Q : β → Hp → Prop) : Out α → Prop
  | .ok a S' => ∀ μ' H' b, Stp μ H μ' H' → RS K μ' S' H' → R μ' H' a b → Q b H'
  | .exc k a S' => ∀ μ' H' c d, Stp μ H μ' H' → RS K μ' S' H' → xr k a μ' H' c d → Wx c d σ H'
def tG {α β : Type} (R : Mu → Hp → α → β → Prop) (m : Env' → Mo α) : L2.St → Hp → (β → Hp → Prop) → Prop := fun σ H Q =>
  ∃ μ ρ S r, RS K μ S H ∧ RE K μ H ρ σ ∧ m ρ S = some r ∧ Fi K xr Wx R μ H σ Q r
abbrev rW : Mu → Hp → W → V → Prop := RW K
abbrev rB : Mu → Hp → Bool → Bool → Prop := fun _ _ a b => a = b
abbrev rA : Mu → Hp → List W → List V → Prop := RWs K
abbrev tE (m : Env' → Mo W) : TE := tG K xr Wx (rW K) m
abbrev tT (m : Env' → Mo Bool) : TT := tG K xr Wx rB m
abbrev tA (m : Env' → Mo (List W)) : TA := tG K xr Wx (rA K) m
end
section
variable {K : PySem.W.Frag} {xr : XRel} {Wx : WX} {α β γ δ : Type} {R : Mu → Hp → α → β → Prop} {R' : Mu → Hp → γ → δ → Prop} {μ μ' : Mu} {H H' : Hp} {σ : L2.St} {ρ : Env'} {S S' : Sto}
theorem Fi.stp {Q : β → Hp → Prop} {r : Out α} (s : Stp μ H μ' H') (h : Fi K xr Wx R μ H σ Q r) : Fi K xr Wx R μ' H' σ Q r := by
  cases r with
  | ok a S' => exact fun μ2 H2 b s2 => h μ2 H2 b (s.trans s2)
  | exc k a S' => exact fun μ2 H2 c d s2 => h μ2 H2 c d (s.trans s2)
theorem tG.first {m : Env' → Mo α} {f : α → Mo γ} {Q : δ → Hp → Prop} {r : Out γ} (hs : RS K μ S H) (he : RE K μ H ρ σ) (h : bnd (m ρ) f S = some r) (fi : Fi K xr Wx R' μ H σ Q r) :
    tG K xr Wx R m σ H (fun y H1 => ∃ μ1 S1 x, Stp μ H μ1 H1 ∧ RS K μ1 S1 H1 ∧ RE K μ1 H1 ρ σ ∧ R μ1 H1 x y ∧ f x S1 = some r ∧ Fi K xr Wx R' μ1 H1 σ Q r) := by
  unfold bnd at h
  cases e : m ρ S with
  | none => rw [e] at h; cases h
  | some o =>
    rw [e] at h
    refine ⟨μ, ρ, S, o, hs, he, e, ?_⟩
    cases o with
    | exc k a S1 =>
      cases h
      exact fi
    | ok x S1 => exact fun μ1 H1 b st rs rr => ⟨μ1, S1, x, st, rs, he.stp st, rr, h, fi.stp st⟩
theorem tG.last {m : Env' → Mo α} {Q : β → Hp → Prop} {r : Out α} (hs : RS K μ S H) (he : RE K μ H ρ σ) (h : m ρ S = some r) (fi : Fi K xr Wx R μ H σ Q r) : tG K xr Wx R m σ H Q := ⟨μ, ρ, S, r, hs, he, h, fi⟩
end
theorem PEw {X : Cx} {e : Expr} {t t' : TE} (h : PE X e t) (w : ∀ σ H Q, t' σ H Q → t σ H Q) : PE X e t' := ⟨fun pins s σ H Q I q => h.run pins s σ H Q I (w _ _ _ q)⟩
theorem PTw {X : Cx} {e : Expr} {t t' : TT} (h : PT X e t) (w : ∀ σ H Q, t' σ H Q → t σ H Q) : PT X e t' := ⟨fun pins s σ H Q I q => h.run pins s σ H Q I (w _ _ _ q)⟩
theorem PWw {X : Cx} {e : Expr} {t t' : TT} (h : PW X e t) (w : ∀ σ H Q, t' σ H Q → t σ H Q) : PW X e t' := ⟨fun wh pins s σ H Q I q => h.run wh pins s σ H Q I (w _ _ _ q)⟩
theorem PAw {X : Cx} {e : List Expr} {t t' : TA} (h : PA X e t) (w : ∀ σ H Q, t' σ H Q → t σ H Q) : PA X e t' := ⟨fun pos pins s σ H Q I q => h.run pos pins s σ H Q I (w _ _ _ q)⟩
theorem PSw {X : Cx} {e : Stmt} {t t' : TS} (h : PS X e t) (w : ∀ D σ H, t' D σ H → t D σ H) : PS X e t' := ⟨fun pins s σ H D I q => h.run pins s σ H D I (w _ _ _ q)⟩
theorem PSsw {X : Cx} {e : List Stmt} {t t' : TS} (h : PSs X e t) (w : ∀ D σ H, t' D σ H → t D σ H) : PSs X e t' := ⟨fun pins s σ H D I q => h.run pins s σ H D I (w _ _ _ q)⟩

def asD (w : W) : Mo PyData := fun S => match w with
  | .d x => some (.ok x S)
  | .l j => match S[j]? with
    | some xs => some (.ok (.list xs) S)
    | none => none
  | .x _ _ => none
def onD (w : W) : Mo PyData := fun S => match w with
  | .d x => some (.ok x S)
  | .l _ => none
  | .x _ _ => none
section
variable {K : PySem.W.Frag} {μ μ' : Mu} {H H' : Hp} {S S' : Sto} {r : Out PyData} {w : W} {v : V} {α : Type} {q : Out α} {f : PyData → Mo α}
theorem asD_ok (hs : RS K μ S H) (hw : RW K μ H w v) (h : bnd (asD w) f S = some q) : ∃ x, RR K μ H x v ∧ f x S = some q := by
  cases w with
  | d x => exact ⟨x, .d hw, h⟩
  | l j =>
    obtain ⟨a, e, rfl⟩ := hw
    unfold bnd asD at h
    cases z : S[j]? with
    | none => simp [z] at h
    | some xs =>
      simp [z] at h
      obtain ⟨vs, h1, h2⟩ := hs.at_ j a xs e z
      exact ⟨_, .l h1 h2, h⟩
  | x a q => cases h
theorem onD_ok (hw : RW K μ H w v) (h : bnd (onD w) f S = some q) : ∃ x, RD K μ H x v ∧ f x S = some q := by
  cases w with
  | d x => exact ⟨x, hw, h⟩
  | l j => cases h
  | x a q => cases h
end
end DL

namespace DL
open PySem PySem.Spec PyProof.Rows L2

abbrev LIM : Nat := 100000
def mulOk (i j : Int) : Bool := decide (i.natAbs.log2 + j.natAbs.log2 < 1000000)
def divOk (j : Int) : Bool := decide (j ≠ 0) && decide (j.natAbs.log2 < 9000)
def eqOk (x y : PyData) : Bool := SeqAt.shaped x && SeqAt.shaped y
inductive O2 where | add | sub | mul | fdiv | mod | pow | shl
  deriving DecidableEq
inductive C2 where | lt | le | gt | ge | eq | ne | is | isnt | inn | nin
  deriving DecidableEq
def o2 : O2 → PyData → PyData → Option PyData
  | .add, .int i, .int j => some (.int (i + j))
  | .add, .tuple xs, .tuple ys => if xs.length + ys.length ≤ LIM then some (.tuple (xs ++ ys)) else none
  | .add, .list xs, .list ys => if xs.length + ys.length ≤ LIM then some (.list (xs ++ ys)) else none
  | .sub, .int i, .int j => some (.int (i - j))
  | .mul, .int i, .int j => if mulOk i j = true then some (.int (i * j)) else none
  | .fdiv, .int i, .int j => if divOk j = true then some (.int (i.fdiv j)) else none
  | .mod, .int i, .int j => if j ≠ 0 then some (.int (i.fmod j)) else none
  | .pow, .int i, .int j => if 0 ≤ j ∧ j ≤ 1000 ∧ i.natAbs < 2 ^ 64 then some (.int (i ^ j.toNat)) else none
  | .shl, .int i, .int j => if 0 ≤ j ∧ j ≤ 1000000 ∧ i.natAbs.log2 < 1000000 then some (.int (i * 2 ^ j.toNat)) else none
  | _, _, _ => none
def isNon : PyData → Bool
  | .none => true
  | _ => false
def c2 : C2 → PyData → PyData → Option Bool
  | .lt, .int i, .int j => some (decide (i < j))
  | .le, .int i, .int j => some (decide (i ≤ j))
  | .gt, .int i, .int j => some (decide (j < i))
  | .ge, .int i, .int j => some (decide (j ≤ i))
  | .eq, .int i, .int j => some (decide (i = j))
  | .ne, .int i, .int j => some (!decide (i = j))
  | .eq, .str i, .str j => some (decide (i = j))
  | .ne, .str i, .str j => some (!decide (i = j))
  | .eq, x, y => if eqOk x y = true then some (PyData.eqv x y) else none
  | .ne, x, y => if eqOk x y = true then some (!PyData.eqv x y) else none
  | .is, .bool a, .bool b => some (decide (a = b))
  | .isnt, .bool a, .bool b => some (!decide (a = b))
  | .is, x, .none => some (isNon x)
  | .isnt, x, .none => some (!isNon x)
  | .inn, x, .tuple ys => if flatD x = true ∧ ys.all flatD = true then some (ys.any fun y => PyData.eqv y x) else none
  | .nin, x, .tuple ys => if flatD x = true ∧ ys.all flatD = true then some (!ys.any fun y => PyData.eqv y x) else none
  | .inn, x, .list ys => if eqOk x (.list ys) = true then some (ys.any fun y => PyData.eqv y x) else none
  | .nin, x, .list ys => if eqOk x (.list ys) = true then some (!ys.any fun y => PyData.eqv y x) else none
  | _, _, _ => none
where flatD : PyData → Bool
  | .none => true
  | .bool _ => true
  | .int _ => true
  | .str _ => true
  | _ => false

section
variable {K : PySem.W.Frag} {μ : Mu} {S : Sto} {H : Hp}
mutual
theorem RD.dp : ∀ (d : PyData) (v : V), RD K μ H d v → d.canLay0 = true → Dp K H v d
  | .none, _, .non, _ => .non
  | .bool _, _, .bl b, _ => .bl b
  | .int _, _, .int i, _ => .int i
  | .str _, _, .str x, _ => .str x
  | .tuple ds, _, .tup h r, c => .tup h (RDs.dp ds _ r (by simpa [PyData.canLay0] using c))
  | .list ds, _, .lst h _ _ r, c => .lst (.inl h) (RDs.dp ds _ r (by simpa [PyData.canLay0] using c))
  | .dict _, _, .dct h, c => by simp [PyData.canLay0] at c
theorem RDs.dp : ∀ (ds : List PyData) (vs : List V), RDs K μ H ds vs → PyData.canLayAll0 ds = true → DpAll K H vs ds
  | [], _, .nil, _ => .nil
  | d :: ds, _, .cons h t, c => by
    simp only [PyData.canLayAll0, Bool.and_eq_true] at c
    exact .cons (RD.dp d _ h c.1) (RDs.dp ds _ t c.2)
end
theorem RR.dp {d : PyData} {v : V} (h : RR K μ H d v) (c : SeqAt.shaped d = true) : Dp K H v d := by
  have c1 := SeqAt.canLay_of_shaped c
  cases h with
  | d h => exact RD.dp d v h c1
  | l h r => exact .lst (.inl (.inl h)) (RDs.dp _ _ r (by simpa [PyData.canLay0] using c1))
theorem RR.int {i : Int} {v : V} (h : RR K μ H (.int i) v) : v = .int i := by
  cases h with
  | d h => cases h; rfl
theorem RR.bl {i : Bool} {v : V} (h : RR K μ H (.bool i) v) : v = .bl i := by
  cases h with
  | d h => cases h; rfl
theorem RR.non {v : V} (h : RR K μ H .none v) : v = .non := by
  cases h with
  | d h => cases h; rfl
theorem RR.str {i : Str} {v : V} (h : RR K μ H (.str i) v) : v = .str i := by
  cases h with
  | d h => cases h; rfl
theorem RR.tup {ds : List PyData} {v : V} (h : RR K μ H (.tuple ds) v) : ∃ a vs, v = .ref a ∧ SqT K H a vs ∧ RDs K μ H ds vs := by
  cases h with
  | d h => cases h with
    | tup a b => exact ⟨_, _, rfl, a, b⟩
theorem RR.lst {ds : List PyData} {v : V} (h : RR K μ H (.list ds) v) : ∃ a vs, v = .ref a ∧ Rd H a (.lst vs) ∧ RDs K μ H ds vs := by
  cases h with
  | d h => cases h with
    | lst a _ _ b => exact ⟨_, _, rfl, a, b⟩
  | l h r => exact ⟨_, _, rfl, .inl h, r⟩
theorem RR.isN {d : PyData} {v : V} (h : RR K μ H d v) : decide (v = .non) = isNon d := by
  cases h with
  | d h => cases h <;> rfl
  | l h r => rfl
theorem RD.flat {d : PyData} {v : V} (h : RD K μ H d v) (f : c2.flatD d = true) : flatV v = true := by
  cases h <;> first | rfl | cases f
theorem RR.flat {d : PyData} {v : V} (h : RR K μ H d v) (f : c2.flatD d = true) : flatV v = true := by
  cases h with
  | d h => exact h.flat f
  | l h r => cases f
theorem RDs.flat : ∀ {ds : List PyData} {vs : List V}, RDs K μ H ds vs → ds.all c2.flatD = true → vs.all flatV = true
  | _, _, .nil, _ => rfl
  | _, _, .cons h t, c => by
    rw [List.all_cons, Bool.and_eq_true] at c ⊢
    exact ⟨h.flat c.1, RDs.flat t c.2⟩
theorem eqV_eqv {d e : PyData} {v u : V} (h : RD K μ H d v) (h' : RD K μ H e u) (f : c2.flatD d = true) (f' : c2.flatD e = true) : eqV v u = PyData.eqv d e := by
  cases h <;> cases h' <;> first | (cases f; done) | (cases f'; done) | (simp [eqV, PyData.eqv, Bool.beq_eq_decide_eq]; done) | (simp [eqV, PyData.eqv]; rename_i a b; cases a <;> cases b <;> simp <;> omega) | skip
theorem any_eqv {d : PyData} {v : V} (h : RD K μ H d v) (f : c2.flatD d = true) : ∀ {ds : List PyData} {vs : List V}, RDs K μ H ds vs → ds.all c2.flatD = true → inV v vs = ds.any fun y => PyData.eqv y d
  | _, _, .nil, _ => rfl
  | _, _, .cons q t, c => by
    rw [List.all_cons, Bool.and_eq_true] at c
    have e := any_eqv h f t c.2
    unfold inV at e ⊢
    rw [List.any_cons, List.any_cons, e, eqV_eqv q h c.1 f]
end
end DL

namespace DL
open PySem PySem.Spec PyProof.Rows L2
theorem ite_some_none_eq_some {α : Type} {p : Prop} [Decidable p] {x y : α} : ((if p then some x else none) = some y) ↔ (p ∧ x = y) := by
  by_cases h : p <;> simp [h]

def VO (K : PySem.W.Frag) (r : R2) (g : PyData → PyData → Option PyData) : Prop :=
  ∀ (μ : Mu) (S : Sto) (H : Hp) (x y : PyData) (v u : V) (z : PyData) (Q : VK), RS K μ S H → RR K μ H x v → RR K μ H y u → g x y = some z →
    (∀ H' w, Stp μ H μ H' → RS K μ S H' → RD K μ H' z w → Q w H') → r v u H Q
def tokO : O2 → Operator
  | .add => .Add | .sub => .Sub | .mul => .Mult | .fdiv => .FloorDiv | .mod => .Mod | .pow => .Pow | .shl => .LShift
def tokC : C2 → CmpOp
  | .lt => .Lt | .le => .LtE | .gt => .Gt | .ge => .GtE | .eq => .Eq | .ne => .NotEq | .is => .Is | .isnt => .IsNot | .inn => .In | .nin => .NotIn
section
variable {X : Cx}
def rCatL (K : PySem.W.Frag) : R2 := fun x y H Q => ∃ (l b : Addr) (xs zs : List V), x = .ref l ∧ y = .ref b ∧ SqL K H l xs ∧ SqL K H b zs ∧ xs.length + zs.length ≤ sizeLine ∧ ∀ p, H p = none → Q (.ref p) (upd H p (.lst (xs ++ zs)))
theorem op_catL : OpR X (binaryOp .Add) (rCatL X.K) := by
  intro pins s σ H x y v u Q I rx ry h
  obtain ⟨l, b, xs, zs, rfl, rfl, hH, hB, hz, q⟩ := h
  cases rx; cases ry
  obtain ⟨its, r, ⟨o1, n1, g1, c1, d1, e1⟩, z1⟩ := I.list hH
  obtain ⟨its2, r2, ⟨o2, n2, g2, c2, d2, e2⟩, z2⟩ := I.list hB
  have k1 := r.length
  have k2 := r2.length
  obtain ⟨a1, b1, f1, s1⟩ := o1
  obtain ⟨a2, b2, f2, s2⟩ := o2
  simp only at c1 d1 e1 c2 d2 e2
  subst c1 d1 e1 c2 d2 e2
  refine concat_meets ⟨_, g1, rfl⟩ ⟨_, g2, rfl⟩ noFill_list_add seq_list_add PySem.F.slot_list_add PySem.F.entry_list_add (PySem.F.args_list_add_2 _ _)
    (list_addW l b its.toArray its2.toArray n1 n2 none none s1 s2 (by simp only [List.size_toArray]; omega)) ⟨g1, g2, ?_⟩
  rw [show its.toArray ++ its2.toArray = (its ++ its2).toArray by simp]
  exact ⟨.ref _, _, I.lnew (t' := s.toks) (r.append r2) (by rw [List.length_append]; omega), rfl, q _ I.fresh⟩

def cw : Nat := 100
theorem lim_line {n : Nat} (h : n ≤ LIM) : n ≤ sizeLine := Nat.le_trans h (by decide)
theorem int_vo {f : Value → Value → Sem Value} {C : Int → Int → Prop} {g : Int → Int → Int} {G : PyData → PyData → Option PyData} (h : OpR X f (rI C fun i j => .int (g i j)))
    (hg : ∀ x y z, G x y = some z → ∃ i j, x = .int i ∧ y = .int j ∧ C i j ∧ z = .int (g i j)) : OpR X f (rI C fun i j => .int (g i j)) ∧ VO X.K (rI C fun i j => .int (g i j)) G := by
  refine ⟨h, fun μ S H x y v u z Q hs hx hy e k => ?_⟩
  obtain ⟨i, j, rfl, rfl, c, rfl⟩ := hg x y z e
  exact ⟨i, j, hx.int, hy.int, c, k H _ (Stp.refl hs) hs (.int _)⟩
theorem o2_int (o : O2) (C : Int → Int → Prop) (g : Int → Int → Int) (h : OpR X (binaryOp (tokO o)) (rI C fun i j => .int (g i j)))
    (hg : ∀ x y z, o2 o x y = some z → ∃ i j, x = .int i ∧ y = .int j ∧ C i j ∧ z = .int (g i j)) : ∃ r, OpR X (binaryOp (tokO o)) r ∧ VO X.K r (o2 o) := ⟨_, int_vo h hg⟩
theorem mul_okX {i j : Int} (h : mulOk i j = true) : CMulW i j := by
  unfold CMulW
  exact of_decide_eq_true h
def CDivX (_ j : Int) : Prop := divOk j = true
theorem op_fdivX : OpR X (binaryOp .FloorDiv) (rI CDivX fun i j => .int (i.fdiv j)) := opI fun i j _ _ _ _ _ hc q => by
  have h : (decide (j ≠ 0) && decide (j.natAbs.log2 < 9000)) = true := hc
  rw [Bool.and_eq_true] at h
  exact floordiv_int (of_decide_eq_true h.1) q (.inl (PyProof.noPylong_of_log2 (of_decide_eq_true h.2)))
theorem shl_okX {i j : Int} (h : 0 ≤ j ∧ j ≤ 1000000 ∧ i.natAbs.log2 < 1000000) : CShl i j := by
  refine ⟨h.1, ?_⟩
  have b : Builtin.Int.intBits i ≤ i.natAbs.log2 + 1 := by
    unfold Builtin.Int.intBits
    split <;> omega
  omega
theorem o2_ok (o : O2) : ∃ r, OpR X (binaryOp (tokO o)) r ∧ VO X.K r (o2 o) := by
  cases o with
  | sub =>
    refine o2_int .sub (fun _ _ => True) (fun i j => i - j) (opI fun _ _ _ _ _ _ _ _ q => sub_int q) fun x y z e => ?_
    cases x <;> cases y <;> first | (simp [o2] at e; done) | (simp [o2] at e; exact ⟨_, _, rfl, rfl, trivial, e.symm⟩)
  | mul =>
    refine o2_int .mul CMulW (fun i j => i * j) op_mulW fun x y z e => ?_
    cases x <;> cases y <;> first | (simp [o2] at e; done) | (simp [o2] at e; exact ⟨_, _, rfl, rfl, mul_okX e.1, e.2.symm⟩)
  | fdiv =>
    refine o2_int .fdiv CDivX (fun i j => i.fdiv j) op_fdivX fun x y z e => ?_
    cases x <;> cases y <;> first | (simp [o2] at e; done) | (simp [o2] at e; exact ⟨_, _, rfl, rfl, e.1, e.2.symm⟩)
  | mod =>
    refine o2_int .mod (fun _ j => j ≠ 0) (fun i j => i.fmod j) op_modN fun x y z e => ?_
    cases x <;> cases y <;> first | (simp [o2] at e; done) | (simp [o2] at e; exact ⟨_, _, rfl, rfl, e.1, e.2.symm⟩)
  | pow =>
    refine o2_int .pow CPow (fun i j => i ^ j.toNat) op_pow fun x y z e => ?_
    cases x <;> cases y <;> first | (simp [o2] at e; done) | (simp only [o2, ite_some_none_eq_some] at e; exact ⟨_, _, rfl, rfl, ⟨e.1.1, by have := e.1.2.1; omega, e.1.2.2⟩, e.2.symm⟩)
  | shl =>
    refine o2_int .shl CShl (fun i j => i * 2 ^ j.toNat) op_shlW fun x y z e => ?_
    cases x <;> cases y <;> first | (simp [o2] at e; done) | (simp only [o2, ite_some_none_eq_some] at e; exact ⟨_, _, rfl, rfl, shl_okX e.1, e.2.symm⟩)
  | add =>
    refine ⟨_, (OpR.or (op_add) (OpR.or op_catA op_catL)), fun μ S H x y v u z Q hs hx hy e k => ?_⟩
    cases x <;> cases y <;> first | (simp [o2] at e; done) | skip
    · simp [o2] at e
      subst e
      exact .inl ⟨_, _, hx.int, hy.int, k H _ (Stp.refl hs) hs (.int _)⟩
    · simp [o2] at e
      obtain ⟨hl, rfl⟩ := e
      obtain ⟨a, vs, rfl, h1, r1⟩ := hx.lst
      obtain ⟨b, us, rfl, h2, r2⟩ := hy.lst
      refine .inr (.inr ⟨a, b, vs, us, rfl, rfl, .inl h1, .inl h2, lim_line (by rw [← r1.length, ← r2.length]; exact hl), fun p hp => ?_⟩)
      obtain ⟨st, rs, n⟩ := fresh_stp (o := .lst (vs ++ us)) hs hp
      exact k _ _ st rs (.lst (.inl upd_same) n.1 n.2 (RDs.stp st _ _ (r1.append r2)))
    · simp [o2] at e
      obtain ⟨hl, rfl⟩ := e
      rename_i xs ys
      obtain ⟨a, vs, rfl, h1, r1⟩ := hx.tup
      obtain ⟨b, us, rfl, h2, r2⟩ := hy.tup
      refine .inr (.inl ⟨a, b, vs, us, rfl, rfl, h1, h2, lim_line (by rw [← r1.length, ← r2.length]; exact hl), fun z => ?_, fun z z2 => ?_, fun z z2 p hp => ?_⟩)
      · subst z
        cases r1
        exact k _ _ (Stp.refl hs) hs (.tup h2 r2)
      · subst z2
        cases r2
        rw [List.append_nil] at k
        exact k _ _ (Stp.refl hs) hs (.tup h1 r1)
      · obtain ⟨st, rs, n⟩ := fresh_stp (o := .tup (vs ++ us)) hs hp
        exact k _ _ st rs (.tup (.inl (.inl upd_same)) (RDs.stp st _ _ (r1.append r2)))
theorem vb {r : R2} {g : PyData → PyData → Option Bool} (h : ∀ (μ : Mu) (S : Sto) (H : Hp) (x y : PyData) (v u : V) (b : Bool) (Q : VK), RS X.K μ S H → RR X.K μ H x v → RR X.K μ H y u → g x y = some b → Q (.bl b) H → r v u H Q) :
    VO X.K r fun x y => (g x y).map .bool := fun μ S H x y v u z Q hs hx hy e k => by
  have e : (g x y).map PyData.bool = some z := e
  cases q : g x y with
  | none => rw [q] at e; cases e
  | some b =>
    rw [q] at e
    cases e
    exact h μ S H x y v u b Q hs hx hy q (k H _ (Stp.refl hs) hs (.bl b))
theorem c2_ok (o : C2) (hu : X.A.units + 65 < cLine) : ∃ r, OpR X (compareOp (tokC o)) r ∧ VO X.K r fun x y => (c2 o x y).map .bool := by
  have hu1 : X.A.units + 64 < cLine := by omega
  cases o with
  | lt =>
    refine ⟨_, op_lt, vb fun μ S H x y v u b Q hs hx hy e q => ?_⟩
    cases x <;> cases y <;> first | (simp [c2] at e; done) | (simp [c2] at e; subst e; exact ⟨_, _, hx.int, hy.int, q⟩)
  | le =>
    refine ⟨_, op_le, vb fun μ S H x y v u b Q hs hx hy e q => ?_⟩
    cases x <;> cases y <;> first | (simp [c2] at e; done) | (simp [c2] at e; subst e; exact ⟨_, _, hx.int, hy.int, q⟩)
  | gt =>
    refine ⟨_, op_gt, vb fun μ S H x y v u b Q hs hx hy e q => ?_⟩
    cases x <;> cases y <;> first | (simp [c2] at e; done) | (simp [c2] at e; subst e; exact ⟨_, _, hx.int, hy.int, q⟩)
  | ge =>
    refine ⟨_, op_ge, vb fun μ S H x y v u b Q hs hx hy e q => ?_⟩
    cases x <;> cases y <;> first | (simp [c2] at e; done) | (simp [c2] at e; subst e; exact ⟨_, _, hx.int, hy.int, q⟩)
  | eq =>
    refine ⟨_, OpR.or op_eq (op_eqD hu1), vb fun μ S H x y v u b Q hs hx hy e q => ?_⟩
    have gen : (if eqOk x y = true then some (PyData.eqv x y) else none) = some b → (rEq v u H Q ∨ rEqD X.K v u H Q) := fun e => by
      by_cases c : eqOk x y = true
      · rw [if_pos c] at e
        cases e
        unfold eqOk at c
        rw [Bool.and_eq_true] at c
        exact .inr ⟨x, y, hx.dp c.1, hy.dp c.2, c.1, c.2, q⟩
      · rw [if_neg c] at e; cases e
    cases x <;> cases y <;> first
      | exact gen e
      | (simp only [c2, Option.some.injEq] at e
         subst e
         first
           | (have e1 := hx.int; have e2 := hy.int; subst e1 e2; exact .inl ⟨rfl, by simpa using q⟩)
           | (have e1 := hx.str; have e2 := hy.str; subst e1 e2; exact .inl ⟨rfl, by simpa using q⟩))
  | ne =>
    refine ⟨_, OpR.or op_ne (op_neD hu1), vb fun μ S H x y v u b Q hs hx hy e q => ?_⟩
    have gen : (if eqOk x y = true then some (!PyData.eqv x y) else none) = some b → (rNe v u H Q ∨ rNeD X.K v u H Q) := fun e => by
      by_cases c : eqOk x y = true
      · rw [if_pos c] at e
        cases e
        unfold eqOk at c
        rw [Bool.and_eq_true] at c
        exact .inr ⟨x, y, hx.dp c.1, hy.dp c.2, c.1, c.2, q⟩
      · rw [if_neg c] at e; cases e
    cases x <;> cases y <;> first
      | exact gen e
      | (simp only [c2, Option.some.injEq] at e
         subst e
         first
           | (have e1 := hx.int; have e2 := hy.int; subst e1 e2; exact .inl ⟨rfl, by simpa using q⟩)
           | (have e1 := hx.str; have e2 := hy.str; subst e1 e2; exact .inl ⟨rfl, by simpa using q⟩))
  | is =>
    refine ⟨_, OpR.or op_isBl op_isN, vb fun μ S H x y v u b Q hs hx hy e q => ?_⟩
    cases x <;> cases y <;> first
      | (simp [c2] at e; done)
      | (simp only [c2, Option.some.injEq] at e; subst e; exact .inl ⟨_, _, hx.bl, hy.bl, q⟩)
      | (simp only [c2, Option.some.injEq] at e; subst e; exact .inr ⟨hy.non, by rw [hx.isN]; exact q⟩)
  | isnt =>
    refine ⟨_, OpR.or op_notBl op_notN, vb fun μ S H x y v u b Q hs hx hy e q => ?_⟩
    cases x <;> cases y <;> first
      | (simp [c2] at e; done)
      | (simp only [c2, Option.some.injEq] at e; subst e; exact .inl ⟨_, _, hx.bl, hy.bl, q⟩)
      | (simp only [c2, Option.some.injEq] at e; subst e; exact .inr ⟨hy.non, by rw [hx.isN]; exact q⟩)
  | inn =>
    refine ⟨_, OpR.or op_in_seq (op_inD hu), vb fun μ S H x y v u b Q hs hx hy e q => ?_⟩
    have tupC : ∀ ys, y = .tuple ys → (if c2.flatD x = true ∧ ys.all c2.flatD = true then some (ys.any fun y => PyData.eqv y x) else none) = some b → (rIn X.K false v u H Q ∨ rInD X.K v u H Q) := fun ys ey e2 => by
      subst ey
      simp only [ite_some_none_eq_some] at e2
      obtain ⟨⟨f1, f2⟩, rfl⟩ := e2
      obtain ⟨a, vs, rfl, h1, r1⟩ := hy.tup
      have rx : RD X.K μ H x v := by cases hx with
        | d h => exact h
        | l h r => cases f1
      exact .inl ⟨a, vs, rfl, .inr h1, rx.flat f1, r1.flat f2, by rw [any_eqv rx f1 r1 f2]; exact q⟩
    have lstC : ∀ ys, y = .list ys → (if eqOk x (.list ys) = true then some (ys.any fun y => PyData.eqv y x) else none) = some b → (rIn X.K false v u H Q ∨ rInD X.K v u H Q) := fun ys ey e2 => by
      subst ey
      simp only [ite_some_none_eq_some] at e2
      obtain ⟨c, rfl⟩ := e2
      unfold eqOk at c
      rw [Bool.and_eq_true] at c
      exact .inr ⟨x, ys, hx.dp c.1, hy.dp c.2, c.1, c.2, q⟩
    cases y with
    | tuple ys => exact tupC ys rfl (by cases x <;> exact e)
    | list ys => exact lstC ys rfl (by cases x <;> exact e)
    | _ => cases x <;> simp [c2] at e
  | nin =>
    refine ⟨_, OpR.or op_notIn_seq (op_notInD hu), vb fun μ S H x y v u b Q hs hx hy e q => ?_⟩
    have tupC : ∀ ys, y = .tuple ys → (if c2.flatD x = true ∧ ys.all c2.flatD = true then some (!ys.any fun y => PyData.eqv y x) else none) = some b → (rIn X.K true v u H Q ∨ rNotInD X.K v u H Q) := fun ys ey e2 => by
      subst ey
      simp only [ite_some_none_eq_some] at e2
      obtain ⟨⟨f1, f2⟩, rfl⟩ := e2
      obtain ⟨a, vs, rfl, h1, r1⟩ := hy.tup
      have rx : RD X.K μ H x v := by cases hx with
        | d h => exact h
        | l h r => cases f1
      exact .inl ⟨a, vs, rfl, .inr h1, rx.flat f1, r1.flat f2, by rw [any_eqv rx f1 r1 f2]; exact q⟩
    have lstC : ∀ ys, y = .list ys → (if eqOk x (.list ys) = true then some (!ys.any fun y => PyData.eqv y x) else none) = some b → (rIn X.K true v u H Q ∨ rNotInD X.K v u H Q) := fun ys ey e2 => by
      subst ey
      simp only [ite_some_none_eq_some] at e2
      obtain ⟨c, rfl⟩ := e2
      unfold eqOk at c
      rw [Bool.and_eq_true] at c
      exact .inr ⟨x, ys, hx.dp c.1, hy.dp c.2, c.1, c.2, q⟩
    cases y with
    | tuple ys => exact tupC ys rfl (by cases x <;> exact e)
    | list ys => exact lstC ys rfl (by cases x <;> exact e)
    | _ => cases x <;> simp [c2] at e
end
end DL

namespace DL
open PySem PySem.Spec PyProof.Rows L2

inductive RRs (K : PySem.W.Frag) (μ : Mu) (H : Hp) : List PyData → List V → Prop
  | nil : RRs K μ H [] []
  | cons {d : PyData} {v : V} {ds : List PyData} {vs : List V} : RR K μ H d v → RRs K μ H ds vs → RRs K μ H (d :: ds) (v :: vs)
def asDs : List W → Mo (List PyData)
  | [] => re []
  | w :: ws => bnd (asD w) fun x => bnd (asDs ws) fun xs => re (x :: xs)
def onDs : List W → Mo (List PyData)
  | [] => re []
  | w :: ws => bnd (onD w) fun x => bnd (onDs ws) fun xs => re (x :: xs)
section
variable {K : PySem.W.Frag} {μ : Mu} {H : Hp} {S : Sto} {α : Type} {q : Out α}
theorem bnd_assoc {α β γ : Type} (m : Mo α) (f : α → Mo β) (g : β → Mo γ) (S : Sto) : bnd (bnd m f) g S = bnd m (fun x => bnd (f x) g) S := by
  unfold bnd
  cases m S with
  | none => rfl
  | some o => cases o <;> rfl
theorem asDs_ok (hs : RS K μ S H) : ∀ {ws : List W} {vs : List V} {f : List PyData → Mo α}, RWs K μ H ws vs → bnd (asDs ws) f S = some q → ∃ xs, RRs K μ H xs vs ∧ f xs S = some q
  | _, _, f, .nil, h => ⟨[], .nil, h⟩
  | w :: ws, _, f, .cons hw t, h => by
    unfold asDs at h
    rw [bnd_assoc] at h
    obtain ⟨x, r, h⟩ := asD_ok hs hw h
    rw [bnd_assoc] at h
    obtain ⟨xs, r', h⟩ := asDs_ok hs t h
    exact ⟨x :: xs, .cons r r', h⟩
theorem onDs_ok : ∀ {ws : List W} {vs : List V} {f : List PyData → Mo α}, RWs K μ H ws vs → bnd (onDs ws) f S = some q → ∃ xs, RDs K μ H xs vs ∧ f xs S = some q
  | _, _, f, .nil, h => ⟨[], .nil, h⟩
  | w :: ws, _, f, .cons hw t, h => by
    unfold onDs at h
    rw [bnd_assoc] at h
    obtain ⟨x, r, h⟩ := onD_ok hw h
    rw [bnd_assoc] at h
    obtain ⟨xs, r', h⟩ := onDs_ok t h
    exact ⟨x :: xs, .cons r r', h⟩
theorem RDs.ints : ∀ {ns : List Int} {vs : List V}, RDs K μ H (ns.map .int) vs → vs = ns.map V.int
  | [], _, .nil => rfl
  | n :: ns, _, .cons h t => by
    cases h
    rw [RDs.ints t]
    rfl
theorem RDs.bls : ∀ {ns : List Bool} {vs : List V}, RDs K μ H (ns.map .bool) vs → vs = ns.map V.bl
  | [], _, .nil => rfl
  | n :: ns, _, .cons h t => by
    cases h
    rw [RDs.bls t]
    rfl
theorem RDs.strs : ∀ {ns : List Str} {vs : List V}, RDs K μ H (ns.map .str) vs → vs = ns.map V.str
  | [], _, .nil => rfl
  | n :: ns, _, .cons h t => by
    cases h
    rw [RDs.strs t]
    rfl
theorem RDs.ofInts : ∀ ns : List Int, RDs K μ H (ns.map .int) (ns.map V.int)
  | [] => .nil
  | n :: ns => .cons (.int n) (RDs.ofInts ns)
theorem RDs.ofStrs : ∀ ns : List Str, RDs K μ H (ns.map .str) (ns.map V.str)
  | [] => .nil
  | n :: ns => .cons (.str n) (RDs.ofStrs ns)
end
def intsOf : List PyData → Option (List Int)
  | [] => some []
  | .int i :: r => (intsOf r).map (i :: ·)
  | _ => none
def blsOf : List PyData → Option (List Bool)
  | [] => some []
  | .bool i :: r => (blsOf r).map (i :: ·)
  | _ => none
def strsOf : List PyData → Option (List Str)
  | [] => some []
  | .str i :: r => (strsOf r).map (i :: ·)
  | _ => none
theorem intsOf_eq : ∀ {xs : List PyData} {ns : List Int}, intsOf xs = some ns → xs = ns.map .int
  | [], ns, h => by cases h; rfl
  | x :: r, ns, h => by
    cases x <;> first | (simp [intsOf] at h; done) | skip
    simp only [intsOf, Option.map_eq_some_iff] at h
    obtain ⟨m, e, rfl⟩ := h
    rw [intsOf_eq e]
    rfl
theorem blsOf_eq : ∀ {xs : List PyData} {ns : List Bool}, blsOf xs = some ns → xs = ns.map .bool
  | [], ns, h => by cases h; rfl
  | x :: r, ns, h => by
    cases x <;> first | (simp [blsOf] at h; done) | skip
    simp only [blsOf, Option.map_eq_some_iff] at h
    obtain ⟨m, e, rfl⟩ := h
    rw [blsOf_eq e]
    rfl
theorem strsOf_eq : ∀ {xs : List PyData} {ns : List Str}, strsOf xs = some ns → xs = ns.map .str
  | [], ns, h => by cases h; rfl
  | x :: r, ns, h => by
    cases x <;> first | (simp [strsOf] at h; done) | skip
    simp only [strsOf, Option.map_eq_some_iff] at h
    obtain ⟨m, e, rfl⟩ := h
    rw [strsOf_eq e]
    rfl
def tyOf : PyData → String
  | .none => "NoneType" | .bool _ => "bool" | .int _ => "int" | .str _ => "str" | .list _ => "list" | .tuple _ => "tuple" | .dict _ => "dict"
def isSq : PyData → Bool
  | .tuple _ => true
  | .list _ => true
  | _ => false
mutual
def dOk : PyData → Bool
  | .list xs => dOks xs
  | .tuple xs => dOks xs
  | .dict kvs => kvs.isEmpty
  | _ => true
def dOks : List PyData → Bool
  | [] => true
  | x :: xs => dOk x && dOks xs
end
def reprOk (d : PyData) : Bool := isSq d && (dOk d && decide (d.depth ≤ 60)) && (d.showable && (d.leavesShort 2000 && decide (d.bulk ≤ 8000)))
def boolD : PyData → Option Bool
  | .bool b => some b
  | _ => none
def blsD : PyData → Option (List Bool)
  | .list xs => blsOf xs
  | _ => none
inductive B1 where
  | len | abs | int | gcd | isqrt | max | min | divmod | all | any | sum | sortedI | sortedS | tuple | list
  deriving DecidableEq
open Classical in
noncomputable def b1 : B1 → List PyData → Option PyData
  | .len, [.tuple xs] => some (.int xs.length)
  | .len, [.list xs] => some (.int xs.length)
  | .abs, [.int i] => some (.int (if i < 0 then -i else i))
  | .int, [.int i] => some (.int i)
  | .int, [.bool k] => some (.int (if k then 1 else 0))
  | .gcd, [.int a, .int b] => some (.int ((Nat.gcd a.natAbs b.natAbs : Nat) : Int))
  | .isqrt, [.int a] => if 0 ≤ a ∧ a.natAbs.log2 < 13000 then some (.int ((Float64.isqrt a.toNat : Nat) : Int)) else none
  | .max, [.int i, .int j] => some (.int (if j > i then j else i))
  | .min, [.int i, .int j] => some (.int (if j < i then j else i))
  | .divmod, [.int i, .int j] => if 0 < j ∧ j.natAbs.log2 < 9000 then some (.tuple [.int (i / j), .int (i % j)]) else none
  | .all, [.list xs] => (blsOf xs).map fun bs => .bool (bs.all id)
  | .any, [.list xs] => (blsOf xs).map fun bs => .bool (bs.any id)
  | .sum, [.list xs] => (intsOf xs).map fun ns => .int ns.sum
  | .tuple, [.list xs] => some (.tuple xs)
  | .tuple, [.tuple xs] => some (.tuple xs)
  | .list, [.list xs] => some (.list xs)
  | .list, [.tuple xs] => some (.list xs)
  | .sortedS, [.list xs] => match strsOf xs with
    | some ss => if ss.length < 64 then (if h : ∃ ys : List Str, ys.Perm ss ∧ sortedS ys = true ∧ ∀ zs : List Str, zs.Perm ss → sortedS zs = true → zs = ys then some (.list (h.choose.map .str)) else none) else none
    | none => none
  | .sortedI, [.list xs] => match intsOf xs with
    | some ss => if ss.length < 64 then some (.list ((ss.mergeSort fun a b => decide (a ≤ b)).map .int)) else none
    | none => none
  | _, _ => none
def valB : B1 → Value
  | .len => .builtin "len" | .abs => .builtin "abs" | .int => .type "int" | .gcd => .builtin "math.gcd" | .isqrt => .builtin "math.isqrt" | .max => .builtin "max" | .min => .builtin "min"
  | .divmod => .builtin "divmod" | .all => .builtin "all" | .any => .builtin "any" | .sum => .builtin "sum" | .sortedI => .builtin "sorted" | .sortedS => .builtin "sorted" | .tuple => .type "tuple" | .list => .type "list"
def VC (K : PySem.W.Frag) (r : List V → Hp → VK → Prop) (g : List PyData → Option PyData) : Prop :=
  ∀ (μ : Mu) (S : Sto) (H : Hp) (xs : List PyData) (vs : List V) (z : PyData) (Q : VK), RS K μ S H → RRs K μ H xs vs → g xs = some z →
    (∀ H' w, Stp μ H μ H' → RS K μ S H' → RD K μ H' z w → Q w H') → r vs H Q
section
variable {X : Cx} {K : PySem.W.Frag} {μ : Mu} {H : Hp} {S : Sto}
theorem RRs.one {x : PyData} {vs : List V} (h : RRs K μ H [x] vs) : ∃ v, vs = [v] ∧ RR K μ H x v := by
  cases h with
  | cons a t => cases t; exact ⟨_, rfl, a⟩
theorem RRs.two {x y : PyData} {vs : List V} (h : RRs K μ H [x, y] vs) : ∃ v u, vs = [v, u] ∧ RR K μ H x v ∧ RR K μ H y u := by
  cases h with
  | cons a t => cases t with
    | cons b t => cases t; exact ⟨_, _, rfl, a, b⟩
theorem RR.ty {x : PyData} {v : V} (h : RR K μ H x v) : TyX K H v (.type (tyOf x)) := by
  cases h with
  | l a b => exact .base (.lst a)
  | d h =>
    cases h with
    | non => exact .base .non
    | bl b => exact .base (.bl b)
    | int b => exact .base (.int b)
    | str b => exact .base (.str b)
    | tup h r =>
      rcases h with (h | ⟨o, h⟩) | ⟨o, its, n, h1, h2, _⟩
      · exact .base (.tup h)
      · exact .fTuple h
      · exact .kTuple h1 h2
    | lst h _ _ r =>
      rcases h with h | ⟨o, h⟩
      · exact .base (.lst h)
      · exact .base (.frz h)
    | dct h =>
      rcases h with h | ⟨o, h⟩
      · exact .base (.dK h)
      · exact .fDict h
theorem cr_isqrt : CallR X (.builtin "math.isqrt") (fun xs H Q => ∃ a : Int, xs = [.int a] ∧ (0 ≤ a ∧ a.natAbs.log2 < 13000) ∧ Q (.int ((Float64.isqrt a.toNat : Nat) : Int)) H) := by
  intro pins s σ H vs us Q I r h
  obtain ⟨a, rfl, ⟨h0, h1⟩, q⟩ := h
  obtain ⟨u, rfl, t, rfl⟩ := Vals.one r
  have e : a.toNat = a.natAbs := by omega
  refine call_function_meets PySem.W.MGF.kind_isqrt PySem.W.MGF.plain_isqrt PySem.W.MGF.entry_isqrt (PySem.W.MGF.args_isqrt _) (PySem.W.mg_run_isqrt a t (by omega) (by rw [e]; omega) (by rw [e]; omega)).meets ?_
  exact ⟨.int _, H, I.tok _, ⟨_, rfl⟩, q⟩
theorem cr_divmodX : CallR X (.builtin "divmod") (fun xs H Q => ∃ i j : Int, xs = [.int i, .int j] ∧ (0 < j ∧ j.natAbs.log2 < 9000) ∧ ∀ p, H p = none → Q (.ref p) (upd H p (.tup [.int (i / j), .int (i % j)]))) := by
  intro pins s σ H vs us Q I r h
  obtain ⟨i, j, rfl, ⟨h0, h1⟩, q⟩ := h
  exact call_divmodW pins s σ H _ us Q I r ⟨i, j, rfl, ⟨h0, PyProof.noPylong_of_log2 h1⟩, q⟩
theorem b1_ok (b : B1) (hc : X.calm = true) : ∃ r, CallR X (valB b) r ∧ VC X.K r (b1 b) := by
  cases b with
  | len =>
    refine ⟨_, call_len_seq, fun μ S H xs vs z Q hs hx e k => ?_⟩
    unfold b1 at e
    split at e <;> first | (rename_i h; cases h; done) | (simp at e; done) | skip
    all_goals first
      | (cases e
         obtain ⟨v, rfl, r⟩ := hx.one
         obtain ⟨a, vs, rfl, h1, r1⟩ := r.tup
         exact ⟨a, vs, rfl, .inr h1, by rw [← r1.length]; exact k _ _ (Stp.refl hs) hs (.int _)⟩)
      | (cases e
         obtain ⟨v, rfl, r⟩ := hx.one
         obtain ⟨a, vs, rfl, h1, r1⟩ := r.lst
         exact ⟨a, vs, rfl, .inl (.inl h1), by rw [← r1.length]; exact k _ _ (Stp.refl hs) hs (.int _)⟩)
  | abs =>
    refine ⟨_, call_abs, fun μ S H xs vs z Q hs hx e k => ?_⟩
    unfold b1 at e
    split at e <;> first | (rename_i h; cases h; done) | (simp at e; done) | skip
    cases e
    obtain ⟨v, rfl, r⟩ := hx.one
    exact ⟨_, by rw [r.int], k _ _ (Stp.refl hs) hs (.int _)⟩
  | int =>
    refine ⟨_, call_int1, fun μ S H xs vs z Q hs hx e k => ?_⟩
    unfold b1 at e
    split at e <;> first | (rename_i h; cases h; done) | (simp at e; done) | skip
    all_goals first
      | (cases e
         obtain ⟨v, rfl, r⟩ := hx.one
         exact .inl ⟨_, by rw [r.int], k _ _ (Stp.refl hs) hs (.int _)⟩)
      | (cases e
         obtain ⟨v, rfl, r⟩ := hx.one
         exact .inr ⟨_, by rw [r.bl], k _ _ (Stp.refl hs) hs (.int _)⟩)
  | gcd =>
    refine ⟨_, cr_gcd, fun μ S H xs vs z Q hs hx e k => ?_⟩
    unfold b1 at e
    split at e <;> first | (rename_i h; cases h; done) | (simp at e; done) | skip
    cases e
    obtain ⟨v, u, rfl, r, r'⟩ := hx.two
    exact ⟨_, _, by rw [r.int, r'.int], k _ _ (Stp.refl hs) hs (.int _)⟩
  | isqrt =>
    refine ⟨_, cr_isqrt, fun μ S H xs vs z Q hs hx e k => ?_⟩
    unfold b1 at e
    split at e <;> first | (rename_i h; cases h; done) | (simp at e; done) | skip
    rw [ite_some_none_eq_some] at e
    obtain ⟨c, rfl⟩ := e
    obtain ⟨v, rfl, r⟩ := hx.one
    exact ⟨_, by rw [r.int], c, k _ _ (Stp.refl hs) hs (.int _)⟩
  | max =>
    refine ⟨_, call_max2 hc, fun μ S H xs vs z Q hs hx e k => ?_⟩
    unfold b1 at e
    split at e <;> first | (rename_i h; cases h; done) | (simp at e; done) | skip
    cases e
    obtain ⟨v, u, rfl, r, r'⟩ := hx.two
    exact ⟨_, _, by rw [r.int, r'.int], k _ _ (Stp.refl hs) hs (.int _)⟩
  | min =>
    refine ⟨_, call_min2 hc, fun μ S H xs vs z Q hs hx e k => ?_⟩
    unfold b1 at e
    split at e <;> first | (rename_i h; cases h; done) | (simp at e; done) | skip
    cases e
    obtain ⟨v, u, rfl, r, r'⟩ := hx.two
    exact ⟨_, _, by rw [r.int, r'.int], k _ _ (Stp.refl hs) hs (.int _)⟩
  | divmod =>
    refine ⟨_, cr_divmodX, fun μ S H xs vs z Q hs hx e k => ?_⟩
    unfold b1 at e
    split at e <;> first | (rename_i h; cases h; done) | (simp at e; done) | skip
    rw [ite_some_none_eq_some] at e
    obtain ⟨c, rfl⟩ := e
    obtain ⟨v, u, rfl, r, r'⟩ := hx.two
    refine ⟨_, _, by rw [r.int, r'.int], c, fun p hp => ?_⟩
    obtain ⟨st, rs, n⟩ := fresh_stp hs hp
    exact k _ _ st rs (.tup (.inl (.inl upd_same)) (.cons (.int _) (.cons (.int _) .nil)))
  | all =>
    refine ⟨_, cr_all hc, fun μ S H xs vs z Q hs hx e k => ?_⟩
    unfold b1 at e
    split at e <;> first | (rename_i h; cases h; done) | (simp at e; done) | skip
    rw [Option.map_eq_some_iff] at e
    obtain ⟨bs, e, rfl⟩ := e
    obtain ⟨v, rfl, r⟩ := hx.one
    obtain ⟨a, vs, rfl, h1, r1⟩ := r.lst
    rw [blsOf_eq e] at r1
    rw [r1.bls] at h1
    exact ⟨a, bs, rfl, .inl h1, k _ _ (Stp.refl hs) hs (.bl _)⟩
  | any =>
    refine ⟨_, cr_any hc, fun μ S H xs vs z Q hs hx e k => ?_⟩
    unfold b1 at e
    split at e <;> first | (rename_i h; cases h; done) | (simp at e; done) | skip
    rw [Option.map_eq_some_iff] at e
    obtain ⟨bs, e, rfl⟩ := e
    obtain ⟨v, rfl, r⟩ := hx.one
    obtain ⟨a, vs, rfl, h1, r1⟩ := r.lst
    rw [blsOf_eq e] at r1
    rw [r1.bls] at h1
    exact ⟨a, bs, rfl, .inl h1, k _ _ (Stp.refl hs) hs (.bl _)⟩
  | sum =>
    refine ⟨_, cr_sum hc, fun μ S H xs vs z Q hs hx e k => ?_⟩
    unfold b1 at e
    split at e <;> first | (rename_i h; cases h; done) | (simp at e; done) | skip
    rw [Option.map_eq_some_iff] at e
    obtain ⟨bs, e, rfl⟩ := e
    obtain ⟨v, rfl, r⟩ := hx.one
    obtain ⟨a, vs, rfl, h1, r1⟩ := r.lst
    rw [intsOf_eq e] at r1
    rw [r1.ints] at h1
    exact ⟨a, bs, rfl, .inl h1, k _ _ (Stp.refl hs) hs (.int _)⟩
  | sortedI =>
    refine ⟨_, cr_sorted, fun μ S H xs vs z Q hs hx e k => ?_⟩
    unfold b1 at e
    split at e <;> first | (rename_i h; cases h; done) | (simp at e; done) | skip
    split at e
    · rename_i ns en
      rw [ite_some_none_eq_some] at e
      obtain ⟨c, rfl⟩ := e
      obtain ⟨v, rfl, r⟩ := hx.one
      obtain ⟨a, vs, rfl, h1, r1⟩ := r.lst
      rw [intsOf_eq en] at r1
      rw [r1.ints] at h1
      refine ⟨a, ns, rfl, .inl h1, c, fun ns' p hp hq np => ?_⟩
      have eq : ns' = ns.mergeSort fun a b => decide (a ≤ b) := by
        refine List.Perm.eq_of_pairwise (le := fun a b : Int => a ≤ b) (fun a b _ _ x y => Int.le_antisymm x y) hq ?_ (hp.trans (List.mergeSort_perm ns _).symm)
        have := List.pairwise_mergeSort (le := fun a b : Int => decide (a ≤ b)) (fun a b c x y => by simp at x y ⊢; omega) (fun a b => by simp; omega) ns
        simpa using this
      rw [← eq] at k
      obtain ⟨st, rs, n⟩ := fresh_stp (o := .lst (ns'.map V.int)) hs np
      exact k _ _ st rs (.lst (.inl upd_same) n.1 n.2 (RDs.ofInts ns'))
    · cases e
  | sortedS =>
    refine ⟨_, cr_sortedS, fun μ S H xs vs z Q hs hx e k => ?_⟩
    unfold b1 at e
    split at e <;> first | (rename_i h; cases h; done) | (simp at e; done) | skip
    split at e
    · rename_i ns en
      by_cases c : ns.length < 64
      · rw [if_pos c] at e
        by_cases hh : ∃ ys : List Str, ys.Perm ns ∧ sortedS ys = true ∧ ∀ zs : List Str, zs.Perm ns → sortedS zs = true → zs = ys
        · rw [dif_pos hh] at e
          cases e
          obtain ⟨v, rfl, r⟩ := hx.one
          obtain ⟨a, vs, rfl, h1, r1⟩ := r.lst
          rw [strsOf_eq en] at r1
          rw [r1.strs] at h1
          refine ⟨a, ns, rfl, .inl h1, c, fun ns' p hp hq np => ?_⟩
          have eq := hh.choose_spec.2.2 ns' hp hq
          rw [← eq] at k
          obtain ⟨st, rs, n⟩ := fresh_stp (o := .lst (ns'.map V.str)) hs np
          exact k _ _ st rs (.lst (.inl upd_same) n.1 n.2 (RDs.ofStrs ns'))
        · rw [dif_neg hh] at e; cases e
      · rw [if_neg c] at e; cases e
    · cases e
  | tuple =>
    refine ⟨_, call_tuple_of, fun μ S H xs vs z Q hs hx e k => ?_⟩
    unfold b1 at e
    split at e <;> first | (rename_i h; cases h; done) | (simp at e; done) | skip
    all_goals first
      | (cases e
         obtain ⟨v, rfl, r⟩ := hx.one
         obtain ⟨a, vs, rfl, h1, r1⟩ := r.lst
         refine ⟨a, vs, rfl, .inl ⟨.inl h1, fun p hp => ?_⟩⟩
         obtain ⟨st, rs, n⟩ := fresh_stp (o := .tup vs) hs hp
         exact k _ _ st rs (.tup (.inl (.inl upd_same)) (RDs.stp st _ _ r1)))
      | (cases e
         obtain ⟨v, rfl, r⟩ := hx.one
         obtain ⟨a, vs, rfl, h1, r1⟩ := r.tup
         exact ⟨a, vs, rfl, .inr ⟨h1, k _ _ (Stp.refl hs) hs (.tup h1 r1)⟩⟩)
  | list =>
    refine ⟨_, call_list_of, fun μ S H xs vs z Q hs hx e k => ?_⟩
    unfold b1 at e
    split at e <;> first | (rename_i h; cases h; done) | (simp at e; done) | skip
    all_goals first
      | (cases e
         obtain ⟨v, rfl, r⟩ := hx.one
         obtain ⟨a, vs, rfl, h1, r1⟩ := r.lst
         refine ⟨a, vs, rfl, .inl (.inl h1), fun p hp => ?_⟩
         obtain ⟨st, rs, n⟩ := fresh_stp (o := .lst vs) hs hp
         exact k _ _ st rs (.lst (.inl upd_same) n.1 n.2 (RDs.stp st _ _ r1)))
      | (cases e
         obtain ⟨v, rfl, r⟩ := hx.one
         obtain ⟨a, vs, rfl, h1, r1⟩ := r.tup
         refine ⟨a, vs, rfl, .inr h1, fun p hp => ?_⟩
         obtain ⟨st, rs, n⟩ := fresh_stp (o := .lst vs) hs hp
         exact k _ _ st rs (.lst (.inl upd_same) n.1 n.2 (RDs.stp st _ _ r1)))
def SysK (K : PySem.W.Frag) : Prop := ∃ o, K.lookup sysModules = some o ∧ o.cls ≠ .type "list"
mutual
theorem RD.reads {pins : List (Addr × Obj)} {s : Shared} {σ : L2.St} (I : Inv X pins σ H s) (hs : SysK X.K) : ∀ (d : PyData) (v : V) (u : Value), RD X.K μ H d v → RelV v u → dOk d = true → ∃ as, Reads s.heap u d as ∧ sysModules ∉ as
  | .none, _, _, .non, r, _ => by
    cases r
    exact ⟨_, Reads.none, by simp⟩
  | .bool b, _, _, .bl _, r, _ => by
    cases r
    exact ⟨_, Reads.bool b, by simp⟩
  | .int i, _, _, .int _, r, _ => by
    obtain ⟨t, rfl⟩ := r
    exact ⟨_, Reads.int i t, by simp⟩
  | .str x, _, _, .str _, r, _ => by
    obtain ⟨t, rfl⟩ := r
    exact ⟨_, Reads.str x t, by simp⟩
  | .tuple ds, _, _, .tup h ra, r, k => by
    cases r
    obtain ⟨its, rv, ⟨o, ho, hc, n, hd⟩, _⟩ := I.tuple h
    obtain ⟨as, hr, hn⟩ := RDs.reads I hs ds _ its ra rv (by simpa [dOk] using k)
    exact ⟨_, Reads.tuple ho hc hd hr, hn⟩
  | .list ds, _, _, .lst (a := a) h _ _ ra, r, k => by
    cases r
    obtain ⟨its, rv, ⟨o, n, ho, hc, _, hd⟩, _⟩ := I.list (.inl h)
    obtain ⟨as, hr, hn⟩ := RDs.reads I hs ds _ its ra rv (by simpa [dOk] using k)
    refine ⟨_, Reads.list ho hc hd hr, fun z => ?_⟩
    rcases List.mem_cons.mp z with e | e
    · obtain ⟨o2, h1, h2⟩ := hs
      have h3 := I.kIn _ _ h1
      rw [e, ho] at h3
      cases h3
      exact h2 hc
    · exact hn e
  | .dict _, _, _, .dct (a := a) h, r, _ => by
    cases r
    obtain ⟨_, ne, vs, kv, o, es, ep, ho, ex, hd, _, hp, _⟩ := h.ok I.hok
    cases kv
    have e0 : es.toList = [] := by
      cases e : es.toList with
      | nil => rfl
      | cons y ys =>
        rw [e] at hp
        cases hp
    have ra : ReadsAll s.heap (es.toList.map (·.key)) (([] : List (PyData × PyData)).map (·.1)) [] := by
      rw [e0]
      exact .nil
    have rb : ReadsAll s.heap (es.toList.map (·.val)) (([] : List (PyData × PyData)).map (·.2)) [] := by
      rw [e0]
      exact .nil
    refine ⟨_, Reads.dict ho ex.1 hd ra rb, fun z => ?_⟩
    have z : sysModules = a := by simpa using z
    rw [← z] at ne
    simp at ne
theorem RDs.reads {pins : List (Addr × Obj)} {s : Shared} {σ : L2.St} (I : Inv X pins σ H s) (hs : SysK X.K) : ∀ (ds : List PyData) (vs : List V) (us : List Value), RDs X.K μ H ds vs → Vals vs us → dOks ds = true → ∃ as, ReadsAll s.heap us ds as ∧ sysModules ∉ as
  | [], _, _, .nil, r, _ => by
    cases r
    exact ⟨_, ReadsAll.nil, by simp⟩
  | d :: ds, _, _, .cons h1 h2, r, k => by
    simp only [dOks, Bool.and_eq_true] at k
    cases r with
    | cons r1 r2 =>
      obtain ⟨as, q1, n1⟩ := RD.reads I hs d _ _ h1 r1 k.1
      obtain ⟨bs, q2, n2⟩ := RDs.reads I hs ds _ _ h2 r2 k.2
      refine ⟨_, ReadsAll.cons q1 q2, fun z => ?_⟩
      rcases List.mem_append.mp z with e | e
      · exact n1 e
      · exact n2 e
end
theorem RR.reads {pins : List (Addr × Obj)} {s : Shared} {σ : L2.St} (I : Inv X pins σ H s) (hs : SysK X.K) {d : PyData} {v : V} {u : Value} (h : RR X.K μ H d v) (r : RelV v u) (k : dOk d = true) : ∃ as, Reads s.heap u d as ∧ sysModules ∉ as := by
  cases h with
  | d h => exact RD.reads I hs d v u h r k
  | @l a vs ds h ra =>
    cases r
    obtain ⟨its, rv, ⟨o, n, ho, hc, _, hd⟩, _⟩ := I.list (.inl (.inl h))
    obtain ⟨as, hr, hn⟩ := RDs.reads I hs ds _ its ra rv (by simpa [dOk] using k)
    refine ⟨_, Reads.list ho hc hd hr, fun z => ?_⟩
    rcases List.mem_cons.mp z with e | e
    · obtain ⟨o2, h1, h2⟩ := hs
      have h3 := I.kIn _ _ h1
      rw [e, ho] at h3
      cases h3
      exact h2 hc
    · exact hn e
theorem isin_ok {T : String} {b : Bool} {pins : List (Addr × Obj)} {s : Shared} {σ : L2.St} {x : PyData} {v : V} {us : List Value} {Q : VK} (I : Inv X pins σ H s) (r : Vals [v, .ty T] us) (hx : RR X.K μ H x v) (e : kitB (tyOf x) T = some b) (q : Q (.bl b) H) :
    wpAny (model X.prog X.w) X.A (call (.builtin "isinstance") us) (EP X pins σ Q) X.xe s :=
  call_isi pins s σ H _ us Q I r ⟨v, .ty T, .type (tyOf x), .type T, b, rfl, .ty T, hx.ty, kit_ty e, q⟩
end
end DL

namespace DL
open PySem PySem.Spec PyProof.Rows L2

inductive Pat where
  | nm (i : Nat)
  | tp (ps : List Pat)
  | sb (i : Nat) (k : Int)
inductive SK where | seq | rng1 | rng2 | enum | zip
  deriving DecidableEq
inductive Ex where
  | var (i : Nat)
  | cI (i : Int)
  | cB (b : Bool)
  | cN
  | cS (x : Str)
  | glo (g : Nat)
  | bin (o : O2) (a b : Ex)
  | neg (a : Ex)
  | cmp (o : C2) (a b : Ex)
  | chn (o o' : C2) (a b c : Ex)
  | and (es : List Ex)
  | or (es : List Ex)
  | not (a : Ex)
  | ite (t a b : Ex)
  | tup (es : List Ex)
  | lst (es : List Ex)
  | lstL (es : List Ex)
  | idx (a i : Ex)
  | slc (a : Ex) (l : Bool) (lo : Ex) (h : Bool) (hi : Ex)
  | isi (T : String) (a : Ex)
  | blt (b : B1) (es : List Ex)
  | rpr (a : Ex)
  | call (f : Nat) (es : List Ex)
  | callK (f : Nat) (n : Nat) (perm : List Nat) (es : List Ex)
  | cmpr (k : SK) (src : List Ex) (p : Pat) (cs : List Ex) (e : Ex) (own : List Nat)
  | dct0
  | isE (i c : Nat)
  | fld (i : Nat)
  | mcnt (a b : Ex)
  | mix (a b : Ex)

mutual
def asg : Pat → PyData → Env' → Mo Env'
  | .nm i, x, ρ => re (ρ.set i (some (.d x)))
  | .tp ps, x, ρ => match x with
    | .tuple xs => asgs ps xs ρ
    | .list xs => asgs ps xs ρ
    | _ => no
  | .sb i k, x, ρ => fun S => match ρ[i]? with
    | some (some (.l j)) => (match S[j]? with
      | some xs => (match ixN xs.length k with
        | some m => some (.ok ρ (S.set j (xs.set m x)))
        | none => none)
      | none => none)
    | _ => none
def asgs : List Pat → List PyData → Env' → Mo Env'
  | [], [], ρ => re ρ
  | p :: ps, x :: xs, ρ => bnd (asg p x ρ) fun ρ' => asgs ps xs ρ'
  | _, _, _ => no
end
mutual
def Pat.slots : Pat → List Nat
  | .nm i => [i]
  | .tp ps => Pat.slotss ps
  | .sb _ _ => []
def Pat.slotss : List Pat → List Nat
  | [] => []
  | p :: ps => p.slots ++ Pat.slotss ps
end
def pairsUp : List PyData → List PyData → List PyData
  | x :: xs, y :: ys => .tuple [x, y] :: pairsUp xs ys
  | _, _ => []
def enumUp : Nat → List PyData → List PyData
  | _, [] => []
  | n, x :: xs => .tuple [.int n, x] :: enumUp (n + 1) xs
def seqOf (w : W) (S : Sto) : Option (List PyData × List Nat) := match w with
  | .d (.tuple xs) => some (xs, [])
  | .d (.list xs) => some (xs, [])
  | .l j => (S[j]?).map fun xs => (xs, [j])
  | _ => none
def lstOf (w : W) (S : Sto) : Option (List PyData × List Nat) := match w with
  | .d (.list xs) => some (xs, [])
  | .l j => (S[j]?).map fun xs => (xs, [j])
  | _ => none
def rngUp (lo : Int) (n : Nat) : List PyData := (List.range n).map fun i => .int (lo + (i : Nat))
def small62 (i : Int) : Bool := decide (-(2 ^ 62) ≤ i) && decide (i < 2 ^ 62)
def itemsOf : SK → List W → Sto → Option (List PyData × List Nat)
  | .seq, [w], S => seqOf w S
  | .rng1, [.d (.int j)], _ => if small62 j = true then some (rngUp 0 j.toNat, []) else none
  | .rng2, [.d (.int i), .d (.int j)], _ => if small62 i = true ∧ small62 j = true then some (rngUp i (j - i).toNat, []) else none
  | .enum, [w], S => (lstOf w S).map fun p => (enumUp 0 p.1, p.2)
  | .zip, [w, u], S => (lstOf w S).bind fun p => (lstOf u S).map fun q => (pairsUp p.1 q.1, p.2 ++ q.2)
  | _, _, _ => none
def stay (S S' : Sto) (g : List Nat) : Prop := ∀ j ∈ g, S'[j]? = S[j]?
def noexc {α : Type} (m : Mo α) : Mo α := fun S => match m S with
  | some (.ok x S') => some (.ok x S')
  | _ => none
open Classical in
noncomputable def staying {α : Type} (S0 : Sto) (g : List Nat) (m : Mo α) : Mo α := fun S => if stay S0 S g then m S else none
noncomputable def compL (a : PyData → Env' → Mo Env') (c : Env' → Mo Bool) (e : Env' → Mo W) (S0 : Sto) (g : List Nat) (ρ0 : Env') : List PyData → List PyData → Mo (List PyData)
  | [], acc => staying S0 g (re acc)
  | x :: xs, acc => staying S0 g (bnd (a x ρ0) fun ρ' => bnd (c ρ') fun b => if b = true then bnd (e ρ') fun w => bnd (onD w) fun d => compL a c e S0 g ρ0 xs (acc ++ [d]) else compL a c e S0 g ρ0 xs acc)
def wipeE (ρ : Env') : List Nat → Env'
  | [] => ρ
  | v :: vs => (wipeE ρ vs).set v none

structure Sm where
  glob : Nat → Option PyData
  call : Nat → List W → Mo W
  /-- the exception that a suite holds: where it lies, its class -/
  exc : Option (Addr × Option Addr × Nat)
  hasI : Nat → Bool
def isx (k c : Nat) : Bool := decide (k = c) || decide (c ≤ 1)
def exAt (x : Option (Addr × Option Addr × Nat)) (w : Option (Option W)) : Option (Nat × Option (Addr × PyData)) := match x, w with
  | some (a, d, k), some (some (.x b q)) => if b = a ∧ q.map (·.1) = d then some (k, q) else none
  | _, _ => none
def truthB (w : W) : Mo Bool := fun S => match w with
  | .d (.bool b) => some (.ok b S)
  | _ => none
def permW (ws : List W) : List Nat → Option (List W)
  | [] => some []
  | i :: is => match ws[i]?, permW ws is with
    | some w, some r => some (w :: r)
    | _, _ => none
def atD (x i : PyData) : Option PyData := match x, i with
  | .tuple xs, .int k => atI xs k
  | .list xs, .int k => atI xs k
  | _, _ => none
def cutD {α : Type} (xs : List α) (lo hi : Option Int) : List α := (xs.drop (HT.sIx xs.length 0 lo)).take (HT.sIx xs.length xs.length hi - HT.sIx xs.length 0 lo)
def slD (x : PyData) (lo hi : Option Int) : Option PyData := match x with
  | .tuple xs => some (.tuple (cutD xs lo hi))
  | .list xs => some (.list (cutD xs lo hi))
  | _ => none
def partO (b : Bool) (w : Mo W) : Mo (Option Int) := if b = true then bnd w (fun x => match x with
  | .d (.int i) => re (some i)
  | _ => no) else re none
mutual
noncomputable def evE (Γ : Sm) : Ex → Env' → Mo W
  | .var i, ρ => fun S => match ρ[i]? with
    | some (some w) => some (.ok w S)
    | _ => none
  | .cI i, _ => re (.d (.int i))
  | .cB i, _ => re (.d (.bool i))
  | .cN, _ => re (.d .none)
  | .cS i, _ => re (.d (.str i))
  | .glo g, _ => bnd (lift (Γ.glob g)) fun x => re (.d x)
  | .bin o a b, ρ => bnd (evE Γ a ρ) fun x => bnd (evE Γ b ρ) fun y => bnd (asD x) fun dx => bnd (asD y) fun dy => bnd (lift (o2 o dx dy)) fun z => re (.d z)
  | .neg a, ρ => bnd (evE Γ a ρ) fun x => match x with
    | .d (.int i) => re (.d (.int (-i)))
    | _ => no
  | .cmp o a b, ρ => bnd (evE Γ a ρ) fun x => bnd (evE Γ b ρ) fun y => bnd (asD x) fun dx => bnd (asD y) fun dy => bnd (lift (c2 o dx dy)) fun z => re (.d (.bool z))
  | .chn o o' a b c, ρ => bnd (evE Γ a ρ) fun x => bnd (evE Γ b ρ) fun y => bnd (asD x) fun dx => bnd (asD y) fun dy => bnd (lift (c2 o dx dy)) fun k =>
      if k = true then bnd (evE Γ c ρ) fun z => bnd (asD y) fun dy => bnd (asD z) fun dz => bnd (lift (c2 o' dy dz)) fun k' => re (.d (.bool k')) else re (.d (.bool false))
  | .and es, ρ => andE Γ es ρ
  | .or es, ρ => orE Γ es ρ
  | .not a, ρ => bnd (evE Γ a ρ) fun x => bnd (truthB x) fun k => re (.d (.bool (!k)))
  | .ite t a b, ρ => bnd (evE Γ t ρ) fun x => bnd (truthB x) fun k => if k = true then evE Γ a ρ else evE Γ b ρ
  | .tup es, ρ => bnd (evEs Γ es ρ) fun ws => bnd (onDs ws) fun xs => if xs.length ≤ LIM then re (.d (.tuple xs)) else no
  | .lst es, ρ => bnd (evEs Γ es ρ) fun ws => bnd (onDs ws) fun xs => if xs.length ≤ LIM then re (.d (.list xs)) else no
  | .lstL es, ρ => bnd (evEs Γ es ρ) fun ws => bnd (onDs ws) fun xs => if xs.length ≤ LIM then (fun S => some (.ok (.l S.length) (S ++ [xs]))) else no
  | .idx a i, ρ => bnd (evE Γ a ρ) fun x => bnd (evE Γ i ρ) fun y => bnd (asD x) fun dx => bnd (onD y) fun dy => bnd (lift (atD dx dy)) fun z => re (.d z)
  | .slc a l lo h hi, ρ => bnd (evE Γ a ρ) fun x => bnd (partO l (evE Γ lo ρ)) fun p => bnd (partO h (evE Γ hi ρ)) fun q => bnd (asD x) fun dx => bnd (lift (slD dx p q)) fun z => re (.d z)
  | .isi T a, ρ => bnd (evE Γ a ρ) fun x => bnd (asD x) fun dx => bnd (lift (kitB (tyOf dx) T)) fun k => re (.d (.bool k))
  | .blt b es, ρ => bnd (evEs Γ es ρ) fun ws => bnd (asDs ws) fun xs => bnd (lift (b1 b xs)) fun z => re (.d z)
  | .rpr a, ρ => bnd (evE Γ a ρ) fun x => bnd (asD x) fun dx => if reprOk dx = true then re (.d (.str dx.shown)) else no
  | .call f es, ρ => bnd (evEs Γ es ρ) fun ws => Γ.call f ws
  | .callK f n perm es, ρ => bnd (evEs Γ es ρ) fun ws => bnd (lift (permW ws perm)) fun us => Γ.call f us
  | .cmpr k src p cs e own, ρ => bnd (evEs Γ src ρ) fun ws => fun S => match itemsOf k ws S with
    | some (xs, g) => if xs.length ≤ LIM then (bnd (noexc (compL (asg p) (fun ρ' => cndE Γ cs ρ') (fun ρ' => evE Γ e ρ') S g (wipeE ρ own) xs [])) fun ys => re (.d (.list ys))) S else none
    | none => none
  | .dct0, _ => re (.d (.dict []))
  | .isE i c, ρ => bnd (lift (exAt Γ.exc ρ[i]?)) fun p => re (.d (.bool (isx p.1 c)))
  | .fld i, ρ => bnd (lift (exAt Γ.exc ρ[i]?)) fun p => bnd (lift (p.2.map (·.2))) fun d => re (.d d)
  | .mcnt a b, ρ => bnd (evE Γ a ρ) fun x => bnd (onD x) fun dx => bnd (lift (blsD dx)) fun bs => bnd (evE Γ b ρ) fun y => bnd (onD y) fun dy => bnd (lift (boolD dy)) fun c => re (.d (.int (bs.countP (· == c) : Nat)))
  | .mix a b, ρ => bnd (evE Γ a ρ) fun x => bnd (onD x) fun dx => bnd (lift (blsD dx)) fun bs => bnd (evE Γ b ρ) fun y => bnd (onD y) fun dy => bnd (lift (boolD dy)) fun c => if bs.any (· == c) = true then re (.d (.int (bs.findIdx (· == c) : Nat))) else no
noncomputable def evEs (Γ : Sm) : List Ex → Env' → Mo (List W)
  | [], _ => re []
  | e :: es, ρ => bnd (evE Γ e ρ) fun w => bnd (evEs Γ es ρ) fun ws => re (w :: ws)
noncomputable def cndE (Γ : Sm) : List Ex → Env' → Mo Bool
  | [], _ => re true
  | c :: cs, ρ => bnd (evE Γ c ρ) fun x => bnd (truthB x) fun k => if k = true then cndE Γ cs ρ else re false
noncomputable def andE (Γ : Sm) : List Ex → Env' → Mo W
  | [], _ => no
  | [e], ρ => evE Γ e ρ
  | e :: e' :: es, ρ => bnd (evE Γ e ρ) fun x => bnd (truthB x) fun k => if k = true then andE Γ (e' :: es) ρ else re (.d (.bool false))
noncomputable def orE (Γ : Sm) : List Ex → Env' → Mo W
  | [], _ => no
  | [e], ρ => evE Γ e ρ
  | e :: e' :: es, ρ => bnd (evE Γ e ρ) fun x => bnd (truthB x) fun k => if k = true then re (.d (.bool true)) else orE Γ (e' :: es) ρ
end
end DL

namespace DL
open PySem PySem.Spec PyProof.Rows L2

structure FnG (P : Program) (w : World) (K : PySem.W.Frag) (mg : Str → Option Value) (base : Heap) (CX : CXT) (k : Nat) (f : Addr) (fd : FuncData) (ps : List Str) (sp : Sp) : Prop where
  len : ∀ vs H Q E, sp vs H Q E → vs.length = ps.length
  run : ∀ (A : Around) (outer : List Env) (s : Shared) (H : Hp) (args : Args) (us : List Value) (vs : List V) (Q : VK) (E : XK), Room k A → A.guards = some [] → Env0 P w K mg base A outer s H →
    BindsTo s fd args (ps.zip us) → Vals vs us → sp vs H Q E → codeAny (model P w) A (.call (.ref f) args) (CR CX outer P w H s Q E) s
def KwTo (K : PySem.W.Frag) (fd : FuncData) (ps : List Str) (npos : Nat) (ks : List Str) (pm : List Nat) : Prop :=
  ∀ (s : Shared) (us ws vs : List Value), K.In s.heap → us.length = npos → ws.length = ks.length → pm.mapM (fun i => (us ++ ws)[i]?) = some vs → BindsTo s fd ⟨us, ks.zip ws⟩ (ps.zip vs)
section
variable {X : Cx} {CX : CXT} {k : Nat} {f : Addr} {fd : FuncData} {ps ks : List Str} {sp : Sp} {E : L2.St → XK} {x : Str} {p pos : Pos} {e : Expr} {es : List Expr} {t tk : TA} {kws : List Keyword} {npos : Nat} {pm : List Nat}
theorem run_fnG {pins : List (Addr × Obj)} {σ : L2.St} {H : Hp} {s : Shared} {Q : VK} {args : Args} {us : List Value} {vs : List V} (F : FnG X.prog X.w X.K X.mg X.base CX k f fd ps sp) (hr : Room k X.A) (hgd : X.A.guards = some [])
    (hb : BindsTo s fd args (ps.zip us)) (hx : PassesAt CX X σ (E σ)) (I : Inv X pins σ H s) (r : Vals vs us) (h : sp vs H Q (E σ)) : codeAny (model X.prog X.w) X.A (.call (.ref f) args) (fun r s' => match r with
      | .ok (.ret u) => EP X pins σ Q u s'
      | .ok _ => False
      | .error e => X.xe e s') s := by
  refine codeAny_mono (F.run X.A X.stack s H args us vs Q (E σ) hr hgd I.env0 hb r h) fun r s' hq => ?_
  cases r with
  | error e => exact hx pins H s e s' I hq
  | ok fl =>
    cases fl with
    | ret u => exact I.after hq
    | _ => exact False.elim hq
theorem call_of {f : Value} {us : List Value} {kw : List (Str × Value)} {pins : List (Addr × Obj)} {σ : L2.St} {Q : VK} {s : Shared} (h : codeAny (model X.prog X.w) X.A (.call f ⟨us, kw⟩) (fun r s' => match r with
      | .ok (.ret u) => EP X pins σ Q u s'
      | .ok _ => False
      | .error e => X.xe e s') s) : wpAny (model X.prog X.w) X.A (PySem.call f us kw) (EP X pins σ Q) X.xe s := by
  refine wpAny_call (codeAny_mono h fun r s' hq => ?_)
  cases r with
  | error e => exact hq
  | ok fl =>
    cases fl with
    | ret u => exact hq
    | _ => exact False.elim hq
theorem pe_callG (F : FnG X.prog X.w X.K X.mg X.base CX k f fd ps sp) (hr : Room k X.A) (hgd : X.A.guards = some []) (hg : Gl X x) (hm : X.mg x = some (.ref f)) (hk : PySem.W.keepIn X.K (.ref f) = true) (hb : Binds X.K fd ps []) (hx : ∀ σ, PassesAt CX X σ (E σ))
    (ha : PA X (e :: es) t) (hdb : (x == ("__debug__" : Str)) = false) (he : starEach (e :: es) X.env = (false, eval e X.env) :: starEach es X.env) (hpl : (backTo pos (starEach es X.env)).any (·.1) = false) :
    PE X (.Call (.Name x p) (e :: es) [] pos) (tCallS sp E t) := by
  refine ⟨fun pins s σ H Q I h => ?_⟩
  refine wpAny_Call_Name_kw (ld_glob I hg hm ?_ hdb)
  refine PySem.W.callWith_K (h₀ := X.base) I.ok.mod.kin hk (thn (ha.run pos pins s σ H _ I h) fun us s1 ⟨vs, H1, I1, r, q⟩ => ⟨I1.kIn, ?_⟩) he hpl
  have hl : us.length = ps.length := by rw [← r.length]; exact F.len _ _ _ _ q
  have b := hb s1 us I1.kIn (by rw [List.append_nil]; exact hl)
  rw [List.append_nil] at b
  exact call_of (run_fnG F hr hgd b (hx σ) I1 r q)
theorem vals_get {xs : List V} {us : List Value} (r : Vals xs us) : ∀ {pm : List Nat} {ys : List V}, pm.mapM (fun i => xs[i]?) = some ys → ∃ vs, pm.mapM (fun i => us[i]?) = some vs ∧ Vals ys vs
  | [], ys, h => by
    simp at h
    subst h
    exact ⟨[], by simp, .nil⟩
  | i :: pm, ys, h => by
    simp only [List.mapM_cons] at h
    cases e : xs[i]? with
    | none => simp [e] at h
    | some y =>
      cases e2 : pm.mapM (fun i => xs[i]?) with
      | none => simp [e, e2] at h
      | some r' =>
        simp [e, e2] at h
        subst h
        obtain ⟨u, hu, ru⟩ := r.get e
        obtain ⟨vs, hv, rv⟩ := vals_get r e2
        exact ⟨u :: vs, by simp [List.mapM_cons, hu, hv], .cons ru rv⟩
def tCallP (sp : Sp) (E : L2.St → XK) (npos : Nat) (ks : List Str) (pm : List Nat) (t tk : TA) : TE := fun σ H Q => t σ H fun vs H1 => tk σ H1 fun zs H2 => vs.length = npos ∧ zs.length = ks.length ∧ ∃ ys, pm.mapM (fun i => (vs ++ zs)[i]?) = some ys ∧ sp ys H2 Q (E σ)
theorem pe_callP (F : FnG X.prog X.w X.K X.mg X.base CX k f fd ps sp) (hr : Room k X.A) (hgd : X.A.guards = some []) (hg : Gl X x) (hm : X.mg x = some (.ref f)) (hk : PySem.W.keepIn X.K (.ref f) = true) (hb : KwTo X.K fd ps npos ks pm) (hx : ∀ σ, PassesAt CX X σ (E σ))
    (ha : PA X (e :: es) t) (hkw : PK X kws tk) (hall : (backToKw pos (keywordEach kws X.env)).all (·.1.isSome) = true) (hks : (backToKw pos (keywordEach kws X.env)).filterMap (·.1) = ks)
    (hdb : (x == ("__debug__" : Str)) = false) (he : starEach (e :: es) X.env = (false, eval e X.env) :: starEach es X.env)
    (hpl : ((backTo pos (starEach (e :: es) X.env)).any (·.1) || (backToKw pos (keywordEach kws X.env)).any (·.1.isNone)) = false) :
    PE X (.Call (.Name x p) (e :: es) kws pos) (tCallP sp E npos ks pm t tk) := by
  refine ⟨fun pins s σ H Q I h => ?_⟩
  refine wpAny_Call_Name_kw (ld_glob I hg hm ?_ hdb)
  refine PySem.W.callWith_KW (h₀ := X.base) I.ok.mod.kin hk hall (thn (ha.run pos pins s σ H _ I h) fun us s1 ⟨vs, H1, I1, r, q⟩ => ?_) hpl he
  refine thn (hkw.run pos pins s1 σ H1 _ I1 q) fun ws s2 ⟨zs, H2, I2, rz, l1, l2, ys, q1, q2⟩ => ⟨I2.kIn, ?_⟩
  rw [hks]
  obtain ⟨us', e1, r1⟩ := vals_get (r.append rz) q1
  exact call_of (run_fnG F hr hgd (hb s2 us ws us' I2.kIn (r.length.symm.trans l1) (rz.length.symm.trans l2) e1) (hx σ) I2 r1 q2)
theorem pe_callP0 (F : FnG X.prog X.w X.K X.mg X.base CX k f fd ps sp) (hr : Room k X.A) (hgd : X.A.guards = some []) (hg : Gl X x) (hm : X.mg x = some (.ref f)) (hk : PySem.W.keepIn X.K (.ref f) = true) (hb : KwTo X.K fd ps 0 ks pm) (hx : ∀ σ, PassesAt CX X σ (E σ))
    (hkw : PK X kws tk) (hall : (backToKw pos (keywordEach kws X.env)).all (·.1.isSome) = true) (hks : (backToKw pos (keywordEach kws X.env)).filterMap (·.1) = ks)
    (hdb : (x == ("__debug__" : Str)) = false) (hpl : ((backTo pos (starEach [] X.env)).any (·.1) || (backToKw pos (keywordEach kws X.env)).any (·.1.isNone)) = false) :
    PE X (.Call (.Name x p) [] kws pos) (tCallP sp E 0 ks pm tNil tk) := by
  refine ⟨fun pins s σ H Q I h => ?_⟩
  refine wpAny_Call_Name_kw (ld_glob I hg hm ?_ hdb)
  refine PySem.W.callWith_KW0 (h₀ := X.base) I.ok.mod.kin hk hall ?_ hpl
  refine thn (hkw.run pos pins s σ H _ I h) fun ws s2 ⟨zs, H2, I2, rz, l1, l2, ys, q1, q2⟩ => ⟨I2.kIn, ?_⟩
  rw [hks]
  obtain ⟨us', e1, r1⟩ := vals_get rz q1
  exact call_of (run_fnG F hr hgd (hb s2 [] ws us' I2.kIn rfl (rz.length.symm.trans l2) e1) (hx σ) I2 r1 q2)
end

def nst : Expr → Bool
  | .Starred _ _ => false
  | _ => true
theorem star_cons {e : Expr} {es : List Expr} {env : Env} (h : nst e = true) : starEach (e :: es) env = (false, eval e env) :: starEach es env := by
  cases e <;> first | rfl | cases h
theorem star_any {env : Env} {pos : Pos} : ∀ {es : List Expr}, es.all nst = true → (backTo pos (starEach es env)).any (·.1) = false
  | [], _ => rfl
  | e :: es, h => by
    rw [List.all_cons, Bool.and_eq_true] at h
    rw [star_cons h.1]
    have := star_any (env := env) (pos := pos) h.2
    unfold backTo at this ⊢
    rw [List.map_cons, List.any_cons, this]
    rfl
def kwn : List Keyword → List Str
  | [] => []
  | ⟨some n, _, _⟩ :: r => n :: kwn r
  | ⟨none, _, _⟩ :: r => kwn r
def kwv : List Keyword → List Expr
  | [] => []
  | ⟨_, e, _⟩ :: r => e :: kwv r
def kwS : List Keyword → Bool
  | [] => true
  | ⟨n, _, _⟩ :: r => n.isSome && kwS r
theorem kw_facts {env : Env} {pos : Pos} : ∀ {kws : List Keyword}, kwS kws = true → (backToKw pos (keywordEach kws env)).all (·.1.isSome) = true ∧ (backToKw pos (keywordEach kws env)).filterMap (·.1) = kwn kws ∧ (backToKw pos (keywordEach kws env)).any (·.1.isNone) = false
  | [], _ => ⟨rfl, rfl, rfl⟩
  | ⟨n, e, kp⟩ :: r, h => by
    unfold kwS at h
    rw [Bool.and_eq_true] at h
    obtain ⟨h1, h2⟩ := h
    obtain ⟨a, b, c⟩ := kw_facts (env := env) (pos := pos) (kws := r) h2
    cases n with
    | none => cases h1
    | some n =>
      unfold backToKw at a b c ⊢
      refine ⟨?_, ?_, ?_⟩
      · show ((true && _) : Bool) = true
        rw [Bool.true_and]; exact a
      · show n :: _ = n :: _
        exact congrArg _ b
      · show ((false || _) : Bool) = false
        rw [Bool.false_or]; exact c
def plT : Expr → Bool
  | .UnaryOp .Not _ _ => false
  | .BoolOp _ _ _ => false
  | .IfExp _ _ _ _ => false
  | .Compare _ _ _ _ => false
  | _ => true
theorem plT_eq {e : Expr} {env : Env} (h : plT e = true) : ∀ whole, isTrue e env whole = (do let v ← whole; standAt e.pos; holding [v] (truthy v)) := by
  intro whole
  cases e <;> first | rfl | cases h | skip
  all_goals (rename_i op a p; cases op <;> first | rfl | cases h)
def plIx : Expr → Bool
  | .Slice _ _ none _ => false
  | _ => true
theorem plIx_eq {e : Expr} (h : plIx e = true) : PlainIx e := by
  intro o i
  cases e <;> first | rfl | skip
  rename_i lo hi st p
  cases st with
  | none => cases h
  | some z => rfl
def nset : Expr → Bool
  | .Set _ _ _ => false
  | _ => true
theorem nset_eq {e : Expr} {env : Env} (h : nset e = true) : ∀ x, foldedSetIterable e env x = pure x := by
  intro x
  cases e <;> first | rfl | cases h
theorem nset_in {e : Expr} {op : CmpOp} (h : nset e = true) : behindInMarks op e = false := by
  cases e <;> first | rfl | cases h
def ncmp : Expr → Bool
  | .ListComp _ _ _ _ => false
  | .SetComp _ _ _ _ => false
  | .DictComp _ _ _ _ _ => false
  | _ => true
theorem ncmp_eq {e : Expr} {t : Option Expr} {l : Nat} {env : Env} (h : ncmp e = true) : swapsWith e t l env = pure false := by
  cases e <;> first | rfl | cases h
end DL

namespace DL
open PySem PySem.Spec PyProof.Rows L2

def Liv (K : PySem.W.Frag) (J : It) (xs : List PyData) (S0 : Sto) (g : List Nat) (μ0 : Mu) (H0 : Hp) : Prop :=
  ∀ (μ : Mu) (S : Sto) (H : Hp), Stp μ0 H0 μ H → RS K μ S H → stay S0 S g →
    (∀ i d, xs[i]? = some d → J.go i H ∧ ∀ x H', J.yld i H x H' → Stp μ H μ H' ∧ RS K μ S H' ∧ RD K μ H' d x) ∧ J.stop xs.length H
section
variable {K : PySem.W.Frag} {xr : XRel} {Wx : WX} {μ : Mu} {H : Hp} {S : Sto}
theorem liv_tup {a : Addr} {vs : List V} {xs : List PyData} (h : SqT K H a vs) (r : RDs K μ H xs vs) (hs : RS K μ S H) : Liv K (Itt K a) xs S [] μ H := fun μ' S' H' st rs _ => by
  have q := st.sqT h
  have r' := RDs.stp st xs vs r
  refine ⟨fun i d e => ?_, ⟨vs, q, by rw [r.length]; exact Nat.le_refl _⟩⟩
  obtain ⟨v, e1, rd⟩ := r'.get e
  refine ⟨⟨vs, v, q, e1⟩, fun x H2 y => ?_⟩
  obtain ⟨rfl, y⟩ := y
  have e2 := y vs q
  rw [e1] at e2; cases e2
  exact ⟨Stp.refl rs, rs, rd⟩
theorem liv_lst {a : Addr} {vs : List V} {xs : List PyData} (h : Rd H a (.lst vs)) (n : a ∉ μ.l) (r : RDs K μ H xs vs) (hs : RS K μ S H) : Liv K (Itl K a) xs S [] μ H := fun μ' S' H' st rs _ => by
  have q : SqL K H' a vs := .inl (st.rdL h n)
  have r' := RDs.stp st xs vs r
  refine ⟨fun i d e => ?_, ⟨vs, q, by rw [r.length]; exact Nat.le_refl _⟩⟩
  obtain ⟨v, e1, rd⟩ := r'.get e
  refine ⟨⟨vs, v, q, e1⟩, fun x H2 y => ?_⟩
  obtain ⟨rfl, y⟩ := y
  have e2 := y vs q
  rw [e1] at e2; cases e2
  exact ⟨Stp.refl rs, rs, rd⟩
theorem loc_at {j : Nat} {a : Addr} {xs : List PyData} {μ' : Mu} {S' : Sto} {H' : Hp} (st : Stp μ H μ' H') (rs : RS K μ' S' H') (sy : stay S S' [j]) (ha : μ.l[j]? = some a) (hx : S[j]? = some xs) : ∃ vs, H' a = some (.lst vs) ∧ RDs K μ' H' xs vs := by
  have e : S'[j]? = some xs := by rw [sy j (by simp)]; exact hx
  have ha' : μ'.l[j]? = some a := by
    obtain ⟨t, z⟩ := st.pre
    rw [z, List.getElem?_append_left (List.getElem?_eq_some_iff.mp ha).1]
    exact ha
  exact rs.at_ j a xs ha' e
theorem liv_loc {j : Nat} {a : Addr} {xs : List PyData} (ha : μ.l[j]? = some a) (hx : S[j]? = some xs) (hs : RS K μ S H) : Liv K (Itl K a) xs S [j] μ H := fun μ' S' H' st rs sy => by
  obtain ⟨vs, q, r'⟩ := loc_at st rs sy ha hx
  have q : SqL K H' a vs := .inl (.inl q)
  refine ⟨fun i d e => ?_, ⟨vs, q, by rw [r'.length]; exact Nat.le_refl _⟩⟩
  obtain ⟨v, e1, rd⟩ := r'.get e
  refine ⟨⟨vs, v, q, e1⟩, fun x H2 y => ?_⟩
  obtain ⟨rfl, y⟩ := y
  have e2 := y vs q
  rw [e1] at e2; cases e2
  exact ⟨Stp.refl rs, rs, rd⟩
theorem liv_rng {lo : Int} {n : Nat} (hs : RS K μ S H) : Liv K (Itr lo n) (rngUp lo n) S [] μ H := fun μ' S' H' st rs _ => by
  refine ⟨fun i d e => ?_, by show n ≤ (rngUp lo n).length; simp [rngUp]⟩
  unfold rngUp at e
  rw [List.getElem?_map] at e
  by_cases hi : i < n
  · rw [List.getElem?_range hi] at e
    cases e
    refine ⟨hi, fun x H2 y => ?_⟩
    obtain ⟨rfl, rfl⟩ := y
    exact ⟨Stp.refl rs, rs, .int _⟩
  · rw [List.getElem?_eq_none (by simpa using hi)] at e
    cases e
inductive LV (K : PySem.W.Frag) (μ : Mu) (S : Sto) (H : Hp) (a : Addr) (xs : List PyData) : List Nat → Prop
  | d {vs : List V} : Rd H a (.lst vs) → a ∉ μ.l → RDs K μ H xs vs → LV K μ S H a xs []
  | l {j : Nat} : μ.l[j]? = some a → S[j]? = some xs → LV K μ S H a xs [j]
theorem LV.now {a : Addr} {xs : List PyData} {g : List Nat} (h : LV K μ S H a xs g) {μ' : Mu} {S' : Sto} {H' : Hp} (st : Stp μ H μ' H') (rs : RS K μ' S' H') (sy : stay S S' g) : ∃ vs, SqL K H' a vs ∧ RDs K μ' H' xs vs := by
  cases h with
  | d h n r => exact ⟨_, .inl (st.rdL h n), RDs.stp st xs _ r⟩
  | l h1 h2 =>
    obtain ⟨vs, q, r⟩ := loc_at st rs sy h1 h2
    exact ⟨vs, .inl (.inl q), r⟩
theorem lv_of {w : W} {v : V} {xs : List PyData} {g : List Nat} (hw : RW K μ H w v) (h : lstOf w S = some (xs, g)) : ∃ a, v = .ref a ∧ LV K μ S H a xs g := by
  cases w with
  | d x =>
    cases x <;> first | (simp [lstOf] at h; done) | skip
    simp only [lstOf, Option.some.injEq, Prod.mk.injEq] at h
    obtain ⟨rfl, rfl⟩ := h
    cases hw with
    | lst h n _ r => exact ⟨_, rfl, .d h n r⟩
  | l j =>
    simp only [lstOf, Option.map_eq_some_iff, Prod.mk.injEq] at h
    obtain ⟨ys, e, rfl, rfl⟩ := h
    obtain ⟨a, ha, rfl⟩ := hw
    exact ⟨a, rfl, .l ha e⟩
  | x a q => cases h
theorem enumUp_get : ∀ {xs : List PyData} {n i : Nat} {d : PyData}, (enumUp n xs)[i]? = some d → ∃ x, xs[i]? = some x ∧ d = .tuple [.int ((n + i : Nat) : Int), x]
  | [], _, _, _, h => by simp [enumUp] at h
  | x :: xs, n, 0, d, h => by
    simp [enumUp] at h
    exact ⟨x, rfl, by rw [← h]; simp⟩
  | x :: xs, n, i + 1, d, h => by
    simp only [enumUp, List.getElem?_cons_succ] at h
    obtain ⟨y, e, q⟩ := enumUp_get h
    exact ⟨y, by simpa using e, by rw [q]; congr 3; omega⟩
theorem enumUp_len : ∀ (xs : List PyData) (n : Nat), (enumUp n xs).length = xs.length
  | [], _ => rfl
  | x :: xs, n => by simp [enumUp, enumUp_len xs]
theorem pairsUp_get : ∀ {xs ys : List PyData} {i : Nat} {d : PyData}, (pairsUp xs ys)[i]? = some d → ∃ x y, xs[i]? = some x ∧ ys[i]? = some y ∧ d = .tuple [x, y]
  | [], _, _, _, h => by simp [pairsUp] at h
  | _ :: _, [], _, _, h => by simp [pairsUp] at h
  | x :: xs, y :: ys, 0, d, h => by
    simp [pairsUp] at h
    exact ⟨x, y, rfl, rfl, h.symm⟩
  | x :: xs, y :: ys, i + 1, d, h => by
    simp only [pairsUp, List.getElem?_cons_succ] at h
    obtain ⟨u, v, e, q⟩ := pairsUp_get h
    exact ⟨u, v, by simpa using e, by simpa using q⟩
theorem pairsUp_len : ∀ (xs ys : List PyData), (pairsUp xs ys).length = min xs.length ys.length
  | [], _ => by simp [pairsUp]
  | _ :: _, [] => by simp [pairsUp]
  | x :: xs, y :: ys => by simp [pairsUp, pairsUp_len xs ys]
theorem liv_enum {a : Addr} {xs : List PyData} {g : List Nat} (h : LV K μ S H a xs g) : Liv K (Ite K a) (enumUp 0 xs) S g μ H := fun μ' S' H' st rs sy => by
  obtain ⟨vs, q, r⟩ := h.now st rs sy
  refine ⟨fun i d e => ?_, ⟨vs, q, by rw [enumUp_len, r.length]; exact Nat.le_refl _⟩⟩
  obtain ⟨x, e1, rfl⟩ := enumUp_get e
  obtain ⟨v, e2, rd⟩ := r.get e1
  refine ⟨⟨vs, v, q, e2⟩, fun z H2 y => ?_⟩
  obtain ⟨T, u, rfl, hT, rfl, y⟩ := y
  have e3 := y vs q
  rw [e2] at e3; cases e3
  obtain ⟨s2, rs2, n2⟩ := fresh_stp (o := .tup [.int (i : Nat), v]) rs hT
  refine ⟨s2, rs2, .tup (.inl (.inl upd_same)) (.cons ?_ (.cons (RD.stp s2 _ _ rd) .nil))⟩
  rw [Nat.zero_add]
  exact .int _
theorem liv_zip {a b : Addr} {xs ys : List PyData} {g g' : List Nat} (h : LV K μ S H a xs g) (h' : LV K μ S H b ys g') : Liv K (Itz K a b) (pairsUp xs ys) S (g ++ g') μ H := fun μ' S' H' st rs sy => by
  obtain ⟨vs, q, r⟩ := h.now st rs fun j hj => sy j (List.mem_append_left _ hj)
  obtain ⟨us, q', r'⟩ := h'.now st rs fun j hj => sy j (List.mem_append_right _ hj)
  refine ⟨fun i d e => ?_, ⟨vs, us, q, q', by rw [pairsUp_len, r.length, r'.length]; omega⟩⟩
  obtain ⟨x, y, e1, e1', rfl⟩ := pairsUp_get e
  obtain ⟨v, e2, rd⟩ := r.get e1
  obtain ⟨u, e2', rd'⟩ := r'.get e1'
  refine ⟨⟨vs, us, v, u, q, q', e2, e2'⟩, fun z H2 y => ?_⟩
  obtain ⟨T, v2, u2, rfl, hT, rfl, y, y'⟩ := y
  have e3 := y vs q
  rw [e2] at e3; cases e3
  have e4 := y' us q'
  rw [e2'] at e4; cases e4
  obtain ⟨s2, rs2, n2⟩ := fresh_stp (o := .tup [v, u]) rs hT
  exact ⟨s2, rs2, .tup (.inl (.inl upd_same)) (.cons (RD.stp s2 _ _ rd) (.cons (RD.stp s2 _ _ rd') .nil))⟩
end

def tI (K : PySem.W.Frag) (xr : XRel) (Wx : WX) (k : SK) (m : Env' → Mo (List W)) : TI := fun σ H R => ∃ μ ρ S r, RS K μ S H ∧ RE K μ H ρ σ ∧ m ρ S = some r ∧ match r with
  | .ok ws S1 => ∃ xs g, itemsOf k ws S1 = some (xs, g) ∧ ∀ μ1 H1 J, Stp μ H μ1 H1 → RS K μ1 S1 H1 → Liv K J xs S1 g μ1 H1 → R J H1
  | .exc k a S' => ∀ μ' H' c d, Stp μ H μ' H' → RS K μ' S' H' → xr k a μ' H' c d → Wx c d σ H'
theorem PIw {X : Cx} {tg e : Expr} {t t' : TI} (h : PI X tg e t) (w : ∀ σ H R, t' σ H R → t σ H R) : PI X tg e t' := ⟨fun pins s σ H R I q => h.run pins s σ H R I (w _ _ _ q)⟩
section
variable {X : Cx} {xr : XRel} {Wx : WX} {tg e e' : Expr} {m : Env' → Mo W} {ms : Env' → Mo (List W)} {p pos : Pos}
def iSq (K : PySem.W.Frag) (tl : TE) : TI := fun σ H R => tl σ H fun x H1 => ∃ a, x = .ref a ∧ ((∃ xs, SqL K H1 a xs ∧ R (Itl K a) H1) ∨ ∃ xs, SqT K H1 a xs ∧ R (Itt K a) H1)
theorem pi_sq {tl : TE} (hl : PE X e tl) : PI X tg e (iSq X.K tl) := by
  refine ⟨fun pins s σ H R I h => ?_⟩
  refine thn (hl.run pins s σ H _ I h) fun v s1 ⟨x, H1, I1, r1, q1⟩ => ?_
  obtain ⟨a, ea, q⟩ := q1
  subst ea
  cases r1
  rcases q with ⟨xs, hq, q⟩ | ⟨xs, hq, q⟩
  · obtain ⟨its, rv, pl, hz⟩ := I1.list hq
    refine wpAny_pyIter_list pl.isList ⟨s1.heap.objs.size, [s1.heap.objs.size], _, _, H1, rfl, I1.kept (t' := s1.toks) fun b o e => Heap.get?_push_of_some _ e, turn_list a _, ⟨_, Heap.get?_push_size _ rfl, rfl, rfl⟩, fun b hb => ?_, q⟩
    obtain rfl : b = s1.heap.objs.size := by simpa using hb
    exact I1.fpOk (Nat.le_refl _) (I1.hok.fresh (Nat.le_refl _))
  · obtain ⟨its, rv, pl, hz⟩ := I1.tuple hq
    refine wpAny_pyIter_tuple (show s1.heap.IsTuple a its.toArray from pl) ⟨s1.heap.objs.size, [s1.heap.objs.size], _, _, H1, rfl, I1.kept (t' := s1.toks) fun b o e => Heap.get?_push_of_some _ e, turn_tuple a _, ⟨_, Heap.get?_push_size _ rfl, rfl, rfl⟩, fun b hb => ?_, q⟩
    obtain rfl : b = s1.heap.objs.size := by simpa using hb
    exact I1.fpOk (Nat.le_refl _) (I1.hok.fresh (Nat.le_refl _))
abbrev one (m : Env' → Mo W) : Env' → Mo (List W) := fun ρ => bnd (m ρ) fun w => bnd (re []) fun ws => re (w :: ws)
theorem i_seq (he : PE X e (tE X.K xr Wx m)) : PI X tg e (tI X.K xr Wx .seq (one m)) := PIw (pi_sq he) fun σ H R h => by
  obtain ⟨μ, ρ, S, r, hs, hr, hm, q⟩ := h
  unfold one bnd at hm
  cases e1 : m ρ S with
  | none => rw [e1] at hm; cases hm
  | some o =>
    rw [e1] at hm
    cases o with
    | exc k a S' =>
      cases hm
      exact ⟨μ, ρ, S, _, hs, hr, e1, q⟩
    | ok w S1 =>
      cases hm
      obtain ⟨xs, g, ei, q⟩ := q
      refine ⟨μ, ρ, S, _, hs, hr, e1, fun μ1 H1 v st rs rw_ => ?_⟩
      have ei : seqOf w S1 = some (xs, g) := ei
      cases w with
      | d x =>
        have hw : RD X.K μ1 H1 x v := rw_
        cases x <;> first | (simp [seqOf] at ei; done) | skip
        all_goals
          simp only [seqOf, Option.some.injEq, Prod.mk.injEq] at ei
          obtain ⟨rfl, rfl⟩ := ei
        · cases hw with
          | lst h n _ r => exact ⟨_, rfl, .inl ⟨_, .inl h, q _ _ _ st rs (liv_lst h n r rs)⟩⟩
        · cases hw with
          | tup h r => exact ⟨_, rfl, .inr ⟨_, h, q _ _ _ st rs (liv_tup h r rs)⟩⟩
      | l j =>
        simp only [seqOf, Option.map_eq_some_iff, Prod.mk.injEq] at ei
        obtain ⟨ys, e2, rfl, rfl⟩ := ei
        obtain ⟨a, ha, rfl⟩ := rw_
        obtain ⟨vs, h1, h2⟩ := rs.at_ j a ys ha e2
        exact ⟨a, rfl, .inl ⟨vs, .inl (.inl h1), q _ _ _ st rs (liv_loc ha e2 rs)⟩⟩
      | x a q => cases ei
theorem i_args {k : SK} {Z : List V → Hp → (It → Hp → Prop) → Prop} (hZ : ∀ (μ : Mu) (S : Sto) (H : Hp) (ws : List W) (vs : List V) (xs : List PyData) (g : List Nat) (R : It → Hp → Prop), RS X.K μ S H → RWs X.K μ H ws vs → itemsOf k ws S = some (xs, g) →
    (∀ J, Liv X.K J xs S g μ H → R J H) → Z vs H R) (σ : L2.St) (H : Hp) (R : It → Hp → Prop) (h : tI X.K xr Wx k ms σ H R) : tA X.K xr Wx ms σ H fun vs H1 => Z vs H1 R := by
  obtain ⟨μ, ρ, S, r, hs, hr, hm, q⟩ := h
  refine ⟨μ, ρ, S, r, hs, hr, hm, ?_⟩
  cases r with
  | exc k a S' => exact q
  | ok ws S1 =>
    obtain ⟨xs, g, ei, q⟩ := q
    exact fun μ1 H1 vs st rs rw_ => hZ μ1 S1 H1 ws vs xs g R rs rw_ ei fun J l => q μ1 H1 J st rs l
theorem RWs.one' {K : PySem.W.Frag} {μ : Mu} {H : Hp} {w : W} {vs : List V} (h : RWs K μ H [w] vs) : ∃ v, vs = [v] ∧ RW K μ H w v := by
  cases h with
  | cons a t => cases t; exact ⟨_, rfl, a⟩
theorem RWs.two' {K : PySem.W.Frag} {μ : Mu} {H : Hp} {w u : W} {vs : List V} (h : RWs K μ H [w, u] vs) : ∃ v z, vs = [v, z] ∧ RW K μ H w v ∧ RW K μ H u z := by
  cases h with
  | cons a t => cases t with
    | cons b t => cases t; exact ⟨_, _, rfl, a, b⟩
theorem small_of {j : Int} (h : small62 j = true) : -(2 ^ 62) ≤ j ∧ j < 2 ^ 62 := by
  unfold small62 at h
  rw [Bool.and_eq_true] at h
  exact ⟨of_decide_eq_true h.1, of_decide_eq_true h.2⟩
theorem i_rng1 (hg : Gl X "range") (hm : X.mg "range" = none) (ha : PA X [e] (tA X.K xr Wx ms)) (hn : nst e = true) : PI X tg (.Call (.Name "range" p) [e] [] pos) (tI X.K xr Wx .rng1 ms) :=
  PIw (pi_range1 hg hm ha (star_cons hn)) fun σ H R h => i_args (Z := fun vs H1 R => ∃ j : Int, vs = [.int j] ∧ -(2 ^ 62) ≤ j ∧ j < 2 ^ 62 ∧ R (Itr 0 j.toNat) H1) (fun μ S H ws vs xs g R rs rw_ ei q => by
    unfold itemsOf at ei
    split at ei <;> first | (rename_i hh; cases hh; done) | (simp at ei; done) | skip
    rw [ite_some_none_eq_some] at ei
    obtain ⟨c, ei⟩ := ei
    cases ei
    obtain ⟨v, rfl, hw⟩ := rw_.one'
    have hw : RD X.K μ H _ v := hw
    cases hw
    exact ⟨_, rfl, (small_of c).1, (small_of c).2, q _ (liv_rng rs)⟩) σ H R h
theorem i_rng2 (hg : Gl X "range") (hm : X.mg "range" = none) (ha : PA X [e, e'] (tA X.K xr Wx ms)) (hn : nst e = true) (hn' : nst e' = true) : PI X tg (.Call (.Name "range" p) [e, e'] [] pos) (tI X.K xr Wx .rng2 ms) :=
  PIw (pi_range2 hg hm ha (by rw [star_cons hn, star_cons hn']; rfl) (star_cons hn')) fun σ H R h => i_args (Z := fun vs H1 R => ∃ i j : Int, vs = [.int i, .int j] ∧ (-(2 ^ 62) ≤ i ∧ i < 2 ^ 62 ∧ -(2 ^ 62) ≤ j ∧ j < 2 ^ 62) ∧ R (Itr i (j - i).toNat) H1) (fun μ S H ws vs xs g R rs rw_ ei q => by
    unfold itemsOf at ei
    split at ei <;> first | (rename_i hh; cases hh; done) | (simp at ei; done) | skip
    rw [ite_some_none_eq_some] at ei
    obtain ⟨c, ei⟩ := ei
    cases ei
    obtain ⟨v, u, rfl, hw, hu⟩ := rw_.two'
    have hw : RD X.K μ H _ v := hw
    have hu : RD X.K μ H _ u := hu
    cases hw
    cases hu
    exact ⟨_, _, rfl, ⟨(small_of c.1).1, (small_of c.1).2, (small_of c.2).1, (small_of c.2).2⟩, q _ (liv_rng rs)⟩) σ H R h
theorem i_enum {elts : List Expr} {kk : Nat} {tpos : Pos} (hg : Gl X "enumerate") (hm : X.mg "enumerate" = none) (ha : PA X [e] (tA X.K xr Wx ms)) (hn : nst e = true) : PI X (.Tuple elts kk tpos) (.Call (.Name "enumerate" p) [e] [] pos) (tI X.K xr Wx .enum ms) :=
  PIw (pi_enum hg hm ha (star_cons hn)) fun σ H R h => i_args (Z := fun vs H1 R => ∃ a xs, vs = [.ref a] ∧ SqL X.K H1 a xs ∧ R (Ite X.K a) H1) (fun μ S H ws vs xs g R rs rw_ ei q => by
    unfold itemsOf at ei
    split at ei <;> first | (rename_i hh; cases hh; done) | (simp at ei; done) | skip
    simp only [Option.map_eq_some_iff, Prod.mk.injEq] at ei
    obtain ⟨⟨ys, g'⟩, e1, rfl, rfl⟩ := ei
    obtain ⟨v, rfl, hw⟩ := rw_.one'
    obtain ⟨a, rfl, lv⟩ := lv_of hw e1
    obtain ⟨vs, q1, _⟩ := lv.now (Stp.refl rs) rs fun _ _ => rfl
    exact ⟨a, vs, rfl, q1, q _ (liv_enum lv)⟩) σ H R h
theorem i_zip {elts : List Expr} {kk : Nat} {tpos : Pos} (hg : Gl X "zip") (hm : X.mg "zip" = none) (ha : PA X [e, e'] (tA X.K xr Wx ms)) (hn : nst e = true) (hn' : nst e' = true) : PI X (.Tuple elts kk tpos) (.Call (.Name "zip" p) [e, e'] [] pos) (tI X.K xr Wx .zip ms) :=
  PIw (pi_zip hg hm ha (star_cons hn) (star_any (by simp [hn']))) fun σ H R h => i_args (Z := fun vs H1 R => ∃ a b xs ys, vs = [.ref a, .ref b] ∧ SqL X.K H1 a xs ∧ SqL X.K H1 b ys ∧ R (Itz X.K a b) H1) (fun μ S H ws vs xs g R rs rw_ ei q => by
    unfold itemsOf at ei
    split at ei <;> first | (rename_i hh; cases hh; done) | (simp at ei; done) | skip
    simp only [Option.map_eq_some_iff, Option.bind_eq_some_iff, Prod.mk.injEq] at ei
    obtain ⟨⟨ys, g'⟩, e1, ⟨zs, g''⟩, e2, rfl, rfl⟩ := ei
    obtain ⟨v, u, rfl, hw, hu⟩ := rw_.two'
    obtain ⟨a, rfl, lv⟩ := lv_of hw e1
    obtain ⟨b, rfl, lv'⟩ := lv_of hu e2
    obtain ⟨vs, q1, _⟩ := lv.now (Stp.refl rs) rs fun _ _ => rfl
    obtain ⟨us, q2, _⟩ := lv'.now (Stp.refl rs) rs fun _ _ => rfl
    exact ⟨a, b, vs, us, rfl, q1, q2, q _ (liv_zip lv lv')⟩) σ H R h
end
end DL

namespace DL
open PySem PySem.Spec PyProof.Rows L2

def clsVal (cl : Nat → Addr) (c : Nat) : Value := if c = 0 then .type "ValueError" else .ref (cl c)
def clsV (cl : Nat → Addr) (c : Nat) : V := if c = 0 then .ty "ValueError" else .ref (cl c)
def xrOf (K : PySem.W.Frag) (nc : Nat) (hasI : Nat → Bool) (cl : Nat → Addr) : XRel := fun k p μ H c d => 2 ≤ k ∧ k < nc ∧ c = .ref (cl k) ∧
  (hasI k = true → ∃ dd u, d = some dd ∧ H dd = some (.xd [(("given" : Str), u)]) ∧ RD K μ H p u) ∧ (hasI k = false → d = none)
structure IsC (K : PySem.W.Frag) (D : Addr) : Prop where
  cl : (PySem.W.clsIn K D).isSome = true
  ga : PySem.W.findIn K (.ref D) "__getattribute__" = some (some (.builtin "BaseException.__getattribute__"))
  gt : PySem.W.findIn K (.ref D) "__getattr__" = some none
  sb : PySem.W.subIn K (.ref D) (.type "BaseException") = some true
  ac : PySem.W.findIn K (.ref D) "__class__" = some (some (.builtin "object.__class__"))
  mr : PySem.W.mroIn K D (.type "object") = some true
  hd : PySem.W.hasDictIn K D = true
  ng : PySem.W.findIn K (.ref D) "given" = some none
  ty : PySem.W.typeIn K (.ref D) = some (.type "type")
  kp : PySem.W.keepIn K (.ref D) = true
def isInitB : List Stmt → Bool
  | [.Assign [.Attribute (.Name a _) f _] (.Name b _) _] => decide (a = "self") && decide (f = "given") && decide (b = "given")
  | _ => false
structure IniC (P : Program) (w : World) (K : PySem.W.Frag) (mg : Str → Option Value) (D : Addr) : Prop where
  oex : OexC K D
  ini : ∃ fI fd, PySem.W.findIn K (.ref D) "__init__" = some (some (.ref fI)) ∧ PySem.W.typeIn K (.ref fI) = some (.type "function") ∧ Binds K fd ["self", "given"] [] ∧
    ∃ qual params body scope, FunD K "__init__" qual params body scope [] [] fI fd ∧ FnScope ["self", "given"] ["self", "given"] scope ∧ isInitB body = true
structure ClsFact (P : Program) (w : World) (K : PySem.W.Frag) (mg : Str → Option Value) (nc : Nat) (cname : Nat → Str) (hasI : Nat → Bool) (cl : Nat → Addr) : Prop where
  g0 : mg "ValueError" = none
  own : ∀ c, 1 ≤ c → c < nc → mg (cname c) = some (.ref (cl c))
  kit : ∀ k c, 2 ≤ k → k < nc → c < nc → PySem.W.kitOne K (.ref (cl k)) (clsVal cl c) = some (isx k c)
  exm : ∀ k c, 2 ≤ k → k < nc → 1 ≤ c → c < nc → PySem.W.exmOne K (.ref (cl k)) (.ref (cl c)) = some (isx k c)
  cls : ∀ k, 2 ≤ k → k < nc → IsC K (cl k)
  ini : ∀ k, 2 ≤ k → k < nc → hasI k = true → IniC P w K mg (cl k)
  non : ∀ k, 2 ≤ k → k < nc → hasI k = false → PySem.W.excIn K (cl k) PySem.HandSPX.veTail "ValueError.__new__" = true
  dgt : 2 < nc → PySem.W.specialIn K (.builtin "object.__class__") "__get__" = some (some (.builtin "getset_descriptor.__get__")) ∧ PySem.W.takesIn K (.builtin "object.__class__") = some true

def spI (K : PySem.W.Frag) (C : Addr) : Sp := fun vs H Q _ => ∃ (a : Addr) (v : V), vs = [.ref a, v] ∧ OexC K C ∧ PySem.W.findIn K (.ref C) "given" = some none ∧ H a = some (exo a C none) ∧
  ∀ dx, H dx = none → dx ≠ a → Q .non (upd (upd H dx (exd dx [(("given" : Str), v)])) a (exo a C (some dx)))
theorem init_ok {P : Program} {w : World} {K : PySem.W.Frag} {mg : Str → Option Value} {base : Heap} {CX : CXT} {k : Nat} {C : Addr} {qual : Str} {params : Arguments} {body : List Stmt} {scope : Scope} {fI : Addr} {fd : FuncData}
    (F : FunD K "__init__" qual params body scope [] [] fI fd) (S : FnScope ["self", "given"] ["self", "given"] scope) (hb : isInitB body = true) : FnOk P w K mg base CX (k + 1) fI fd ["self", "given"] (spI K C) := by
  refine F.ok S (fun vs H Q E h => by obtain ⟨a, v, rfl, _⟩ := h; rfl) fun cdv A outer s H vs Q E hr h => ?_
  unfold isInitB at hb
  split at hb
  · rename_i a p1 f p2 b p3 p4
    simp only [Bool.and_eq_true, decide_eq_true_eq] at hb
    obtain ⟨⟨rfl, rfl⟩, rfl⟩ := hb
    have vis : ∀ x ∈ (["self", "given"] : List Str), Vis scope x := fun x hx => by
      rcases S.par x hx with q | q
      · exact .inl q
      · exact .inr (.inl q)
    refine ⟨_, pss_one (ps_ost (pe_var (i := 0) rfl (vis _ (by simp)) (by decide) (by decide)) (pe_var (i := 1) rfl (vis _ (by simp)) (by decide) (by decide))), ?_⟩
    obtain ⟨a, v, rfl, T, ng, ea, q⟩ := h
    refine ⟨v, rfl, .ref a, rfl, a, C, rfl, T, ng, .inl ⟨ea, fun dx h1 h2 => q dx h1 h2⟩⟩
  · cases hb
section
variable {X : Cx} {C : Addr} {x : Str} {p pos : Pos} {a : Expr} {ta : TA} {k : Nat}
theorem pmk_ini (I : IniC X.prog X.w X.K X.mg C) (T : IsC X.K C) (hr : Room k X.A) (hk : 2 ≤ k) (tk : ∃ W, Takes X W) (hg : Gl X x) (hm : X.mg x = some (.ref C)) (hdb : (x == ("__debug__" : Str)) = false) (ha : PA X [a] ta)
    (he : starEach [a] X.env = (false, eval a X.env) :: starEach [] X.env) : PMk X (.Call (.Name x p) [a] [] pos) (tMkO C (spI X.K C) [] ta) := by
  obtain ⟨fI, fd, h1, h2, h3, qual, params, body, scope, h4, h5, h6⟩ := I.ini
  obtain ⟨W, tk⟩ := tk
  have F := init_ok (P := X.prog) (w := X.w) (mg := X.mg) (base := X.base) (CX := L2.CX X.prog X.w) (k := 0) (C := C) h4 h5 h6
  exact pmk_oex (X := X) (p := p) (pos := pos) (e := a) (es := []) (k := 1) (ds := []) (dvs := []) I.oex h1 h2 F (hr.mono (by omega)) h3 .nil (fun pins σ H s e s' J c => tk e s' (XE.of_call J (fun _ _ _ z => z.elim) c)) hg hm ha hdb he (by rfl)
theorem pmk_own0 (q : PySem.W.excIn X.K C PySem.HandSPX.veTail "ValueError.__new__" = true) (T : IsC X.K C) (hg : Gl X x) (hm : X.mg x = some (.ref C)) (hdb : (x == ("__debug__" : Str)) = false) : PMk X (.Call (.Name x p) [] [] pos) (fun _ H Q => Q (.ref C) none H) := by
  intro pins s σ H Q I h
  refine wpAny_Call_Name_kw (ld_glob I hg hm ?_ hdb)
  refine PySem.W.callWith_K0 I.kIn T.kp ?_
  show wpAny _ _ (call (.ref C) []) _ _ _
  obtain ⟨bm, N, nm, qn, bs, hdct, sn, sub, ab, col, dd, k0, k1, k2, k3, k5, mN, hC, hN, hni, TT⟩ := exc_obj I.kIn q
  refine wpAny_call_exc_subT PySem.F.excBase_ValueError TT hC hN hni (fun h' e hm => ?_) (Nat.zero_le _)
  exact mk_of I hm (raises_own T.sb T.ty) h (I.hok.gone hm.new)
theorem upd_del {H : Hp} {a d : Addr} {o o' u u' : HO} (ha : H a = none) (hd : d ≠ a) : upd (del (upd (upd (upd H a o) d u) a o') a) d u' = upd H d u' := by
  funext b
  by_cases hb : b = d
  · rw [hb, upd_same, upd_same]
  · rw [upd_ne hb, upd_ne hb]
    by_cases hc : b = a
    · rw [hc, del_same, ha]
    · rw [del_ne hc, upd_ne hc, upd_ne hb, upd_ne hc]
theorem ini_read (I : IniC X.prog X.w X.K X.mg C) (T : IsC X.K C) {v : V} {H1 : Hp} {Q : XK} (h : ∀ d, H1 d = none → Q (.ref C) (some d) (upd H1 d (.xd [(("given" : Str), v)]))) : ([v] : List V).length ≤ 1000 ∧ ∀ a, H1 a = none →
    spI X.K C (.ref a :: ([v] ++ [])) (upd H1 a (exo a C none)) (fun r H2 => r = .non ∧ ∃ (d : Addr) (fs : List (Str × V)), H2 a = some (exo a C (some d)) ∧ H2 d = some (exd d fs) ∧ H1 d = none ∧ Q (.ref C) (some d) (upd (del H2 a) d (.xd fs))) (fun _ _ _ => False) := by
  refine ⟨by show 1 ≤ 1000; decide, fun a ha => ⟨a, v, rfl, I.oex, T.ng, upd_same, fun dx h1 h2 => ⟨rfl, dx, [(("given" : Str), v)], upd_same, ?_, ?_, ?_⟩⟩⟩
  · rw [upd_ne h2, upd_same]
  · rw [upd_ne h2] at h1
    exact h1
  · rw [upd_ne h2] at h1
    rw [upd_del ha h2]
    exact h dx h1
end
section
variable {X : Cx} {D a : Addr} {oe : Obj} {od : Option Addr} {pn : List (Addr × Obj)}
def rIsX (K : PySem.W.Frag) (D a : Addr) (od : Option Addr) : List V → Hp → VK → Prop := fun xs H Q => ∃ (c : V) (cv : Value) (b : Bool), xs = [.ref a, c] ∧ (∀ u, RelV c u → u = cv) ∧ PySem.W.kitOne K (.ref D) cv = some b ∧ (∀ d, od = some d → ∃ fs, H d = some (.xd fs)) ∧ Q (.bl b) H
theorem call_isEx (T : IsC X.K D) (hn : PySem.W.specialIn X.K (.builtin "object.__class__") "__get__" = some (some (.builtin "getset_descriptor.__get__"))) (ht : PySem.W.takesIn X.K (.builtin "object.__class__") = some true)
    (hz : Zc (.ref D) od oe) (hf : ∃ vs, oe.data = .fields vs) : CallR (X.suite a ((a, oe) :: pn)) (.builtin "isinstance") (rIsX X.K D a od) := by
  intro pins s σ H xs us Q I r h
  obtain ⟨c, cv, b, rfl, hcv, e, hd, q⟩ := h
  cases r with
  | cons rx rr =>
    cases rr with
    | cons rt rr =>
      cases rr
      cases rx
      have ec := hcv _ rt
      subst ec
      have hget := (I.pin (a, oe) (List.mem_append_left _ List.mem_cons_self)).1
      obtain ⟨vs, hv⟩ := hf
      have J : ∃ o, PySem.W.InstAt s.heap a oe D o := by
        have nc : PySem.W.notCls oe = true := by
          unfold PySem.W.notCls
          rw [hv]
        cases eo : od with
        | none => exact ⟨none, hget, hz.1, nc, by rw [hz.2, eo]; trivial⟩
        | some d =>
          obtain ⟨fs, hx⟩ := hd d eo
          have ok : ObjOk X.prog X.w H s.heap d (.xd fs) := I.hok d _ hx
          obtain ⟨mA, ⟨o, es, ep, ho, hr⟩, _⟩ := ok
          exact ⟨some o, hget, hz.1, nc, by rw [hz.2, eo]; exact ho⟩
      obtain ⟨o, J⟩ := J
      exact PySem.W.kia_one (PySem.W.kitx_exc T.cl T.ga T.gt T.sb T.ac hn ht T.mr) I.kIn J e (fun z => nomatch z) fun tk => ⟨.bl b, H, I.kept (t' := tk) fun _ _ z => z, rfl, q⟩
end
end DL

namespace DL
open PySem PySem.Spec PyProof.Rows L2

def spD (K : PySem.W.Frag) (xr : XRel) (m : List W → Mo W) : Sp := fun vs H Q E => ∃ μ S ws r, RS K μ S H ∧ RWs K μ H ws vs ∧ m ws S = some r ∧ match r with
  | .ok d S' => ∀ μ' H' v, Stp μ H μ' H' → RS K μ' S' H' → RW K μ' H' d v → Q v H'
  | .exc k a S' => ∀ μ' H' c dd, Stp μ H μ' H' → RS K μ' S' H' → xr k a μ' H' c dd → E c dd H'
structure Tb where
  nf : Nat
  fname : Nat → Str
  kws : Nat → List (Nat × List Str × List Nat)
  gname : Nat → Str
  maths : List B1
  nc : Nat
  cname : Nat → Str
  hasI : Nat → Bool
structure Cfg where
  N : List Str
  sc : Scope
  raw : Option Scope
  /-- not in a suite -/
  cm : Bool
structure SuF (K : PySem.W.Frag) (T : Tb) (cl : Nat → Addr) (X : Cx) (a : Addr) (od : Option Addr) (k : Nat) : Prop where
  ex : ∃ X0 oe pn, X = Cx.suite X0 a ((a, oe) :: pn) ∧ Zc (.ref (cl k)) od oe ∧ (∃ vs, oe.data = .fields vs)
  lo : 2 ≤ k
  hi : k < T.nc
def nameB : B1 → Str
  | .len => "len" | .abs => "abs" | .int => "int" | .gcd => "gcd" | .isqrt => "isqrt" | .max => "max" | .min => "min" | .divmod => "divmod" | .all => "all" | .any => "any" | .sum => "sum"
  | .sortedI => "sorted" | .sortedS => "sorted" | .tuple => "tuple" | .list => "list"
def isMath : B1 → Bool
  | .gcd => true
  | .isqrt => true
  | _ => false
def bltNames : List Str := ["len", "abs", "int", "max", "min", "divmod", "all", "any", "sum", "sorted", "tuple", "list", "isinstance", "bool", "str", "repr", "range", "enumerate", "zip"]
def tyNames : List String := ["int", "bool", "tuple", "str", "list"]
structure Gd (T : Tb) (sm : Sm) (xr : XRel) (k : Nat) (Γ : Cfg) (X : Cx) (Wx : WX) : Prop where
  N : X.N = Γ.N
  nd : Γ.N.Nodup
  sc : X.env.scope = Γ.sc
  fn : match Γ.raw with
    | none => ∀ x, X.fn x = true
    | some r => X.fn = fun x => r.names.lookup x == some .cell
  calm : Γ.cm = true → X.calm = true
  room : Γ.cm = true → Room k X.A
  grd : X.A.guards = some []
  un : X.A.units + 65 < cLine
  tk : Takes X Wx
  po : PassesOwn (model X.prog X.w) X.A X.env X.xe
  glob : ∀ g x, sm.glob g = some x → ∃ u v, X.mg (T.gname g) = some u ∧ RelV v u ∧ ∀ μ H, (∀ a ∈ μ.l, ∃ vs, H a = some (.lst vs)) → RD X.K μ H x v
  call : ∀ f, f < T.nf → ∃ a fd ps, X.mg (T.fname f) = some (.ref a) ∧ PySem.W.keepIn X.K (.ref a) = true ∧ FnG X.prog X.w X.K X.mg X.base (L2.CX X.prog X.w) k a fd ps (spD X.K xr (sm.call f)) ∧ Binds X.K fd ps [] ∧
    ∀ n ks pm, (n, ks, pm) ∈ T.kws f → KwTo X.K fd ps n ks pm
  blt : ∀ x ∈ bltNames, X.mg x = none
  math : ∀ b ∈ T.maths, isMath b = true → X.mg (nameB b) = some (valB b)
  sys : SysK X.K
  k2 : 2 ≤ k
  top : Γ.raw = none → X.stack = X.env :: X.outer ∧ X.env.frame = some X.env.locals
  hI : sm.hasI = T.hasI
  noe : Γ.cm = true → sm.exc = none
  cls : ∃ cl, xr = xrOf X.K T.nc T.hasI cl ∧ ClsFact X.prog X.w X.K X.mg T.nc T.cname T.hasI cl ∧ ∀ a d k, sm.exc = some (a, d, k) → SuF X.K T cl X a d k
theorem Gd.blk {T : Tb} {sm : Sm} {xr : XRel} {k : Nat} {Γ : Cfg} {X : Cx} {Wx : WX} (g : Gd T sm xr k Γ X Wx) (hcm : Γ.cm = true) (scope : Scope) (s : Shared) (H : Hp) (C : Addr) (cl : List (Str × Addr)) (fp : List Addr) :
    Gd T sm xr k { Γ with sc := relS scope Γ.sc, raw := some scope } (X.blk s H scope (compEnvC scope cl C X.env) fp) (fun _ _ _ _ => False) where
  N := g.N
  nd := g.nd
  sc := by
    show relS scope X.env.scope = relS scope Γ.sc
    rw [g.sc]
  fn := rfl
  calm := g.calm
  room := g.room
  grd := g.grd
  un := g.un
  tk := takes0
  po := PassesOwn.never
  glob := g.glob
  call := g.call
  blt := g.blt
  math := g.math
  sys := g.sys
  k2 := g.k2
  top := fun e => by cases e
  hI := g.hI
  noe := g.noe
  cls := by
    obtain ⟨cl, h1, h2, _⟩ := g.cls
    refine ⟨cl, h1, h2, fun a d k e => ?_⟩
    rw [g.noe hcm] at e
    cases e

def visB (Γ : Cfg) (x : Str) : Bool := match Γ.sc.names.lookup x with
  | some .local => true
  | some .cell => true
  | some .free => true
  | _ => false
def glB (Γ : Cfg) (x : Str) : Bool := match Γ.sc.names.lookup x with
  | some .globalImplicit => true
  | _ => false
def okN (x : Str) : Bool := !(x == ("__debug__" : Str)) && (!(x == ("__classdict__" : Str)) && !(x == ("__name__" : Str)))
def stB (Γ : Cfg) (x : Str) : Bool := match Γ.sc.names.lookup x with
  | some .local => true
  | some .cell => (match Γ.raw with
    | none => true
    | some r => r.names.lookup x == some .cell)
  | _ => false
section
variable {T : Tb} {sm : Sm} {xr : XRel} {k : Nat} {Γ : Cfg} {X : Cx} {Wx : WX} {x : Str}
theorem okN_ok (h : okN x = true) : (x == ("__debug__" : Str)) = false ∧ (x == ("__classdict__" : Str)) = false ∧ x ≠ "__name__" := by
  unfold okN at h
  rw [Bool.and_eq_true, Bool.and_eq_true] at h
  obtain ⟨a, b, c⟩ := h
  refine ⟨by simpa using a, by simpa using b, by simpa using c⟩
theorem Gd.vis (g : Gd T sm xr k Γ X Wx) (h : visB Γ x = true) : Vis X.env.scope x := by
  unfold visB at h
  unfold Vis
  rw [g.sc]
  split at h <;> first | exact .inl (by assumption) | exact .inr (.inl (by assumption)) | exact .inr (.inr (by assumption)) | cases h
theorem Gd.gl (g : Gd T sm xr k Γ X Wx) (h : glB Γ x = true) : Gl X x := by
  unfold glB at h
  unfold Gl Env.kindOf
  rw [g.sc]
  split at h
  · assumption
  · cases h
theorem Gd.st (g : Gd T sm xr k Γ X Wx) (h : stB Γ x = true) : L2.Loc X.env.scope x ∧ (X.fn x = true ∨ X.env.scope.names.lookup x = some .local) := by
  unfold stB at h
  unfold L2.Loc
  rw [g.sc]
  have f := g.fn
  split at h
  · rename_i e
    exact ⟨.inl e, .inr e⟩
  · rename_i e
    refine ⟨.inr e, .inl ?_⟩
    cases q : Γ.raw with
    | none =>
      rw [q] at f
      exact f x
    | some r =>
      rw [q] at h f
      rw [f]
      exact h
  · cases h
theorem Gd.n (g : Gd T sm xr k Γ X Wx) {i : Nat} (h : Γ.N[i]? = some x) : X.N[i]? = some x := by rw [g.N]; exact h
theorem Gd.xnd (g : Gd T sm xr k Γ X Wx) : X.N.Nodup := by rw [g.N]; exact g.nd
end

section
variable {X : Cx} {xr : XRel} {Wx : WX} {pos p : Pos} {a b c e : Expr} {es : List Expr} {ma mb mc m : Env' → Mo W} {ms : Env' → Mo (List W)} {i : Nat} {x : Str}
abbrev EE (X : Cx) (xr : XRel) (Wx : WX) (e : Expr) (m : Env' → Mo W) : Prop := PE X e (tE X.K xr Wx m)
abbrev ET (X : Cx) (xr : XRel) (Wx : WX) (e : Expr) (m : Env' → Mo W) : Prop := PT X e (tT X.K xr Wx fun ρ => bnd (m ρ) truthB)
abbrev EA (X : Cx) (xr : XRel) (Wx : WX) (es : List Expr) (ms : Env' → Mo (List W)) : Prop := PA X es (tA X.K xr Wx ms)
theorem e_var (hN : X.N[i]? = some x) (hv : Vis X.env.scope x) (h1 : (x == ("__debug__" : Str)) = false) (h2 : (x == ("__classdict__" : Str)) = false) :
    EE X xr Wx (.Name x pos) fun ρ S => match ρ[i]? with
      | some (some w) => some (.ok w S)
      | _ => none := PEw (pe_var hN hv h1 h2) fun σ H Q h => by
  obtain ⟨μ, ρ, S, r, hs, hr, hm, fi⟩ := h
  simp only at hm
  split at hm
  · rename_i w e
    cases hm
    obtain ⟨v, e1, r⟩ := hr.at_ i w e
    exact ⟨v, e1, fi _ _ _ (Stp.refl hs) hs r⟩
  · cases hm
theorem e_con {v : V} {d : PyData} (h : PE X e (tC v)) (r : ∀ μ H, (∀ a ∈ μ.l, ∃ vs, H a = some (.lst vs)) → RD X.K μ H d v) : EE X xr Wx e fun _ => re (.d d) := PEw h fun σ H Q h => by
  obtain ⟨μ, ρ, S, z, hs, hr, hm, fi⟩ := h
  cases hm
  exact fi _ _ _ (Stp.refl hs) hs (r μ H hs.lstAt)
theorem bnd_assocF {α β γ : Type} (m : Mo α) (f : α → Mo β) (g : β → Mo γ) : bnd (bnd m f) g = bnd m fun x => bnd (f x) g := funext fun S => bnd_assoc m f g S
theorem lift_ok {α β : Type} {o : Option α} {f : α → Mo β} {S : Sto} {r : Out β} (h : bnd (lift o) f S = some r) : ∃ z, o = some z ∧ f z S = some r := by
  cases o with
  | none => cases h
  | some z => exact ⟨z, rfl, h⟩
theorem sq {α β γ δ : Type} {K : PySem.W.Frag} {R : Mu → Hp → α → β → Prop} {R' : Mu → Hp → γ → δ → Prop} {μ : Mu} {H : Hp} {σ : L2.St} {ρ : Env'} {S : Sto} {m : Env' → Mo α} {f : α → Mo γ} {Q : δ → Hp → Prop} {r : Out γ}
    (hs : RS K μ S H) (he : RE K μ H ρ σ) (h : bnd (m ρ) f S = some r) (fi : Fi K xr Wx R' μ H σ Q r) {Z : β → Hp → Prop}
    (k : ∀ μ1 S1 H1 x y, Stp μ H μ1 H1 → RS K μ1 S1 H1 → RE K μ1 H1 ρ σ → R μ1 H1 x y → f x S1 = some r → Fi K xr Wx R' μ1 H1 σ Q r → Z y H1) : tG K xr Wx R m σ H Z := by
  obtain ⟨μ', ρ', S', z', hs', hr', hm', fi'⟩ := tG.first (R := R) hs he h fi
  refine ⟨μ', ρ', S', z', hs', hr', hm', ?_⟩
  cases z' with
  | exc k a S1 => exact fi'
  | ok w S1 =>
    refine fun μ1 H1 v st rs rw_ => ?_
    obtain ⟨μ2, S2, x2, st2, rs2, re2, rw2, h2, fi2⟩ := fi' μ1 H1 v st rs rw_
    exact k μ2 S2 H1 x2 v st2 rs2 re2 rw2 h2 fi2
theorem fin_d {K : PySem.W.Frag} {μ : Mu} {H : Hp} {σ : L2.St} {S : Sto} {Q : VK} {r : Out W} {d : PyData} (h : re (W.d d) S = some r) (fi : Fi K xr Wx (rW K) μ H σ Q r) {H' : Hp} {v : V} (st : Stp μ H μ H') (rs : RS K μ S H') (rd : RD K μ H' d v) : Q v H' := by
  cases h
  exact fi _ _ _ st rs rd
theorem e_vo {r : R2} {g : PyData → PyData → Option PyData} (hv : VO X.K r g) (σ : L2.St) (H : Hp) (Q : VK)
    (h : tE X.K xr Wx (fun ρ => bnd (ma ρ) fun x => bnd (mb ρ) fun y => bnd (asD x) fun dx => bnd (asD y) fun dy => bnd (lift (g dx dy)) fun z => re (.d z)) σ H Q) : tOp r (tE X.K xr Wx ma) (tE X.K xr Wx mb) σ H Q := by
  obtain ⟨μ, ρ, S, z, hs, hr, hm, fi⟩ := h
  refine sq hs hr hm fi fun μ1 S1 H1 x v st1 rs1 re1 rw1 h1 fi1 => ?_
  refine sq rs1 re1 h1 fi1 fun μ2 S2 H2 y u st2 rs2 re2 rw2 h2 fi2 => ?_
  obtain ⟨dx, rx, h3⟩ := asD_ok rs2 (rw1.stp st2) h2
  obtain ⟨dy, ry, h4⟩ := asD_ok rs2 rw2 h3
  obtain ⟨zz, ez, h5⟩ := lift_ok h4
  exact hv μ2 S2 H2 dx dy v u zz Q rs2 rx ry ez fun H' w' st' rs' rd => fin_d h5 fi2 st' rs' rd
theorem e_bin (o : O2) (ha : EE X xr Wx a ma) (hb : EE X xr Wx b mb) : EE X xr Wx (.BinOp a (tokO o) b pos) fun ρ => bnd (ma ρ) fun x => bnd (mb ρ) fun y => bnd (asD x) fun dx => bnd (asD y) fun dy => bnd (lift (o2 o dx dy)) fun z => re (.d z) := by
  obtain ⟨r, h1, h2⟩ := o2_ok (X := X) o
  exact PEw (pe_op h1 ha hb) (e_vo h2)
theorem lift_map {α β γ : Type} {o : Option α} {g : α → β} {f : β → Mo γ} : bnd (lift (o.map g)) f = bnd (lift o) fun z => f (g z) := by
  cases o <;> rfl
theorem e_cmp (o : C2) (hu : X.A.units + 65 < cLine) (hn : nset b = true) (ha : EE X xr Wx a ma) (hb : EE X xr Wx b mb) :
    EE X xr Wx (.Compare a [tokC o] [b] pos) fun ρ => bnd (ma ρ) fun x => bnd (mb ρ) fun y => bnd (asD x) fun dx => bnd (asD y) fun dy => bnd (lift (c2 o dx dy)) fun z => re (.d (.bool z)) := by
  obtain ⟨r, h1, h2⟩ := c2_ok (X := X) o hu
  refine PEw (pe_cmpR h1 ha hb (nset_in hn)) fun σ H Q h => e_vo h2 σ H Q ?_
  simpa only [lift_map] using h
theorem truthB_ok {K : PySem.W.Frag} {α : Type} {μ : Mu} {H : Hp} {w : W} {v : V} {f : Bool → Mo α} {S : Sto} {r : Out α} (hw : RW K μ H w v) (h : bnd (truthB w) f S = some r) : ∃ k, v = .bl k ∧ w = .d (.bool k) ∧ f k S = some r := by
  cases w with
  | l j => cases h
  | x a q => cases h
  | d x =>
    cases x <;> first | (cases h; done) | skip
    have hw : RD K μ H _ v := hw
    cases hw
    exact ⟨_, rfl, rfl, h⟩
theorem tB_of {t : TE} {σ : L2.St} {H : Hp} {Q : Bool → Hp → Prop} (h : t σ H fun v H1 => ∃ k, v = .bl k ∧ Q k H1) : tTest t σ H Q := h
theorem truthT (h : EE X xr Wx e m) (hp : plT e = true) : ET X xr Wx e m := PTw (pt_val h (plT_eq hp)) fun σ H Q q => by
  obtain ⟨μ, ρ, S, z, hs, hr, hm, fi⟩ := q
  refine sq hs hr hm fi fun μ1 S1 H1 x v st1 rs1 re1 rw1 h1 fi1 => ?_
  cases x with
  | l j => cases h1
  | x a q => cases h1
  | d d =>
    cases d <;> first | (cases h1; done) | skip
    have rw1 : RD X.K μ1 H1 _ v := rw1
    cases rw1
    cases h1
    exact ⟨_, rfl, fi1 _ _ _ (Stp.refl rs1) rs1 rfl⟩
theorem t_cmp (o : C2) (hu : X.A.units + 65 < cLine) (hn : nset b = true) (ha : EE X xr Wx a ma) (hb : EE X xr Wx b mb) :
    ET X xr Wx (.Compare a [tokC o] [b] pos) fun ρ => bnd (ma ρ) fun x => bnd (mb ρ) fun y => bnd (asD x) fun dx => bnd (asD y) fun dy => bnd (lift (c2 o dx dy)) fun z => re (.d (.bool z)) := by
  obtain ⟨r, h1, h2⟩ := c2_ok (X := X) o hu
  refine PTw (pt_cmpR h1 ha hb (nset_in hn)) fun σ H Q h => ?_
  obtain ⟨μ, ρ, S, z, hs, hr, hm, fi⟩ := h
  simp only [bnd_assocF] at hm
  show tE X.K xr Wx ma σ H _
  refine sq hs hr hm fi fun μ1 S1 H1 x v st1 rs1 re1 rw1 h1 fi1 => ?_
  refine sq rs1 re1 h1 fi1 fun μ2 S2 H2 y u st2 rs2 re2 rw2 h2' fi2 => ?_
  obtain ⟨dx, rx, h3⟩ := asD_ok rs2 (rw1.stp st2) h2'
  obtain ⟨dy, ry, h4⟩ := asD_ok rs2 rw2 h3
  obtain ⟨zz, ez, h5⟩ := lift_ok h4
  refine h2 μ2 S2 H2 dx dy v u (.bool zz) _ rs2 rx ry (by simp [ez]) fun H' w' st' rs' rd => ?_
  cases rd
  cases h5
  exact ⟨_, rfl, fi2 _ _ _ st' rs' rfl⟩
end
end DL

namespace DL
open PySem PySem.Spec PyProof.Rows L2
section
variable {X : Cx} {xr : XRel} {Wx : WX} {pos p p2 : Pos} {a b c e : Expr} {es : List Expr} {ma mb mc m : Env' → Mo W} {ms : Env' → Mo (List W)} {i : Nat} {x : Str}
theorem e_neg (ha : EE X xr Wx a ma) : EE X xr Wx (.UnaryOp .USub a pos) fun ρ => bnd (ma ρ) fun x => match x with
    | .d (.int i) => re (.d (.int (-i)))
    | _ => no := PEw (pe_un un_neg ha) fun σ H Q h => by
  obtain ⟨μ, ρ, S, z, hs, hr, hm, fi⟩ := h
  show tE X.K xr Wx ma σ H _
  refine sq hs hr hm fi fun μ1 S1 H1 x v st1 rs1 re1 rw1 h1 fi1 => ?_
  cases x with
  | l j => cases h1
  | x a q => cases h1
  | d d =>
    cases d <;> first | (cases h1; done) | skip
    have rw1 : RD X.K μ1 H1 _ v := rw1
    cases rw1
    exact ⟨_, rfl, fin_d h1 fi1 (Stp.refl rs1) rs1 (.int _)⟩
theorem e_chn (o o' : C2) (hu : X.A.units + 65 < cLine) (hn : nset c = true) (ha : EE X xr Wx a ma) (hb : EE X xr Wx b mb) (hc : EE X xr Wx c mc) :
    let M : Env' → Mo W := fun ρ => bnd (ma ρ) fun x => bnd (mb ρ) fun y => bnd (asD x) fun dx => bnd (asD y) fun dy => bnd (lift (c2 o dx dy)) fun k =>
      if k = true then bnd (mc ρ) fun z => bnd (asD y) fun dy => bnd (asD z) fun dz => bnd (lift (c2 o' dy dz)) fun k' => re (.d (.bool k')) else re (.d (.bool false))
    EE X xr Wx (.Compare a [tokC o, tokC o'] [b, c] pos) M ∧ ET X xr Wx (.Compare a [tokC o, tokC o'] [b, c] pos) M := by
  intro M
  obtain ⟨r, h1, h2⟩ := c2_ok (X := X) o hu
  obtain ⟨r', h1', h2'⟩ := c2_ok (X := X) o' hu
  have hm : lastMarks [tokC o, tokC o'] [b, c] = false := by
    show behindInMarks (tokC o') c = false
    exact nset_in hn
  have key : ∀ (σ : L2.St) (H : Hp) (Q : VK), tE X.K xr Wx M σ H Q → tChain r r' (tE X.K xr Wx ma) (tE X.K xr Wx mb) (tE X.K xr Wx mc) σ H Q := fun σ H Q h => by
    obtain ⟨μ, ρ, S, z, hs, hr, hm, fi⟩ := h
    refine sq hs hr hm fi fun μ1 S1 H1 x v st1 rs1 re1 rw1 h1 fi1 => ?_
    refine sq rs1 re1 h1 fi1 fun μ2 S2 H2 y u st2 rs2 re2 rw2 h3 fi2 => ?_
    obtain ⟨dx, rx, h4⟩ := asD_ok rs2 (rw1.stp st2) h3
    obtain ⟨dy, ry, h5⟩ := asD_ok rs2 rw2 h4
    obtain ⟨kk, ez, h6⟩ := lift_ok h5
    refine h2 μ2 S2 H2 dx dy v u (.bool kk) _ rs2 rx ry (by simp [ez]) fun H' w' st' rs' rd => ?_
    cases rd
    refine ⟨kk, rfl, ?_⟩
    cases kk with
    | false =>
      rw [if_neg (by decide)] at h6 ⊢
      cases h6
      exact fi2 _ _ _ st' rs' (.bl _)
    | true =>
      rw [if_pos rfl] at h6 ⊢
      refine sq rs' (re2.stp st') h6 (fi2.stp st') fun μ3 S3 H3 z w st3 rs3 re3 rw3 h7 fi3 => ?_
      obtain ⟨dy', ry', h8⟩ := asD_ok rs3 ((rw2.stp st').stp st3) h7
      obtain ⟨dz, rz, h9⟩ := asD_ok rs3 rw3 h8
      obtain ⟨k2, e2, h10⟩ := lift_ok h9
      refine h2' μ3 S3 H3 dy' dz u w (.bool k2) _ rs3 ry' rz (by simp [e2]) fun H4 w4 st4 rs4 rd4 => ?_
      exact fin_d h10 fi3 st4 rs4 rd4
  refine ⟨PEw (pe_chain h1 h1' ha hb hc hm) key, PTw (pt_chain h1 h1' ha hb hc hm) fun σ H Q h => ?_⟩
  refine key σ H _ ?_
  obtain ⟨μ, ρ, S, z, hs, hr, hm, fi⟩ := h
  refine sq hs hr hm fi fun μ1 S1 H1 x v st1 rs1 re1 rw1 h1 fi1 => ?_
  cases x with
  | l j => cases h1
  | x a q => cases h1
  | d d =>
    cases d <;> first | (cases h1; done) | skip
    have rw1 : RD X.K μ1 H1 _ v := rw1
    cases rw1
    cases h1
    exact ⟨_, rfl, fi1 _ _ _ (Stp.refl rs1) rs1 rfl⟩
theorem e_not (h : EE X xr Wx a ma) : EE X xr Wx (.UnaryOp .Not a pos) fun ρ => bnd (ma ρ) fun x => bnd (truthB x) fun k => re (.d (.bool (!k))) := PEw (pe_not h) fun σ H Q h => by
  obtain ⟨μ, ρ, S, z, hs, hr, hm, fi⟩ := h
  show tE X.K xr Wx ma σ H _
  refine sq hs hr hm fi fun μ1 S1 H1 x v st1 rs1 re1 rw1 h1 fi1 => ?_
  obtain ⟨k, rfl, rfl, h2⟩ := truthB_ok rw1 h1
  exact ⟨k, rfl, fin_d h2 fi1 (Stp.refl rs1) rs1 (.bl _)⟩
theorem t_not (h : ET X xr Wx a ma) : ET X xr Wx (.UnaryOp .Not a pos) fun ρ => bnd (ma ρ) fun x => bnd (truthB x) fun k => re (.d (.bool (!k))) := PTw (pt_not h) fun σ H Q h => by
  obtain ⟨μ, ρ, S, z, hs, hr, hm, fi⟩ := h
  simp only [bnd_assocF] at hm
  rw [← bnd_assocF (ma ρ)] at hm
  refine sq (m := fun ρ => bnd (ma ρ) truthB) hs hr hm fi fun μ1 S1 H1 x v st1 rs1 re1 rw1 h1 fi1 => ?_
  cases h1
  have e : x = v := rw1
  subst e
  exact fi1 _ _ _ (Stp.refl rs1) rs1 rfl
theorem e_ite (ht : ET X xr Wx c mc) (ha : EE X xr Wx a ma) (hb : EE X xr Wx b mb) : EE X xr Wx (.IfExp c a b pos) fun ρ => bnd (mc ρ) fun x => bnd (truthB x) fun k => if k = true then ma ρ else mb ρ := PEw (pe_ifExp ht ha hb) fun σ H Q h => by
  obtain ⟨μ, ρ, S, z, hs, hr, hm, fi⟩ := h
  have hm : bnd (bnd (mc ρ) truthB) (fun k => if k = true then ma ρ else mb ρ) S = some z := by rw [bnd_assocF]; exact hm
  refine sq (m := fun ρ => bnd (mc ρ) truthB) hs hr hm fi fun μ1 S1 H1 x v st1 rs1 re1 rw1 h1 fi1 => ?_
  have e : x = v := rw1
  subst e
  cases x with
  | true => exact ⟨μ1, ρ, S1, z, rs1, re1, h1, fi1⟩
  | false => exact ⟨μ1, ρ, S1, z, rs1, re1, h1, fi1⟩
theorem t_ite (ht : ET X xr Wx c mc) (ha : ET X xr Wx a ma) (hb : ET X xr Wx b mb) : ET X xr Wx (.IfExp c a b pos) fun ρ => bnd (mc ρ) fun x => bnd (truthB x) fun k => if k = true then ma ρ else mb ρ := by
  refine ⟨fun pins s σ H Q I h => ?_⟩
  obtain ⟨μ, ρ, S, z, hs, hr, hm, fi⟩ := h
  simp only [bnd_assocF] at hm
  rw [← bnd_assocF (mc ρ)] at hm
  have h1 := sq (m := fun ρ => bnd (mc ρ) truthB) (R := rB) hs hr hm fi (Z := fun k H1 => if k = true then tT X.K xr Wx (fun ρ => bnd (ma ρ) truthB) σ H1 Q else tT X.K xr Wx (fun ρ => bnd (mb ρ) truthB) σ H1 Q) fun μ1 S1 H1 x v st1 rs1 re1 rw1 h1 fi1 => by
    have e : x = v := rw1
    subst e
    cases x with
    | true =>
      rw [if_pos rfl] at h1 ⊢
      exact ⟨μ1, ρ, S1, z, rs1, re1, h1, fi1⟩
    | false =>
      rw [if_neg (by decide)] at h1 ⊢
      exact ⟨μ1, ρ, S1, z, rs1, re1, h1, fi1⟩
  refine isTrue_IfExp (thn (ht.run pins s σ H _ I h1) fun d s1 ⟨H1, I1, q1⟩ => ?_)
  cases d with
  | true => exact ha.run pins s1 σ H1 Q I1 q1
  | false => exact hb.run pins s1 σ H1 Q I1 q1
theorem a_nil : EA X xr Wx [] fun _ => re [] := PAw pa_nil fun σ H Q h => by
  obtain ⟨μ, ρ, S, z, hs, hr, hm, fi⟩ := h
  cases hm
  exact fi _ _ _ (Stp.refl hs) hs .nil
theorem a_cons (hn : nst a = true) (ha : EE X xr Wx a ma) (he : EA X xr Wx es ms) : EA X xr Wx (a :: es) fun ρ => bnd (ma ρ) fun w => bnd (ms ρ) fun ws => re (w :: ws) := PAw (pa_cons ha he (star_cons hn)) fun σ H Q h => by
  obtain ⟨μ, ρ, S, z, hs, hr, hm, fi⟩ := h
  show tE X.K xr Wx ma σ H _
  refine sq hs hr hm fi fun μ1 S1 H1 x v st1 rs1 re1 rw1 h1 fi1 => ?_
  show tA X.K xr Wx ms σ H1 _
  refine sq (R := rA X.K) rs1 re1 h1 fi1 fun μ2 S2 H2 y u st2 rs2 re2 rw2 h2 fi2 => ?_
  cases h2
  exact fi2 _ _ _ (Stp.refl rs2) rs2 (.cons (rw1.stp st2) rw2)
theorem e_tup {kk : Nat} (he : EA X xr Wx es ms) : EE X xr Wx (.Tuple es kk pos) fun ρ => bnd (ms ρ) fun ws => bnd (onDs ws) fun xs => if xs.length ≤ LIM then re (.d (.tuple xs)) else no := PEw (pe_tup he) fun σ H Q h => by
  obtain ⟨μ, ρ, S, z, hs, hr, hm, fi⟩ := h
  show tA X.K xr Wx ms σ H _
  refine sq (R := rA X.K) hs hr hm fi fun μ1 S1 H1 ws vs st1 rs1 re1 rw1 h1 fi1 => ?_
  obtain ⟨xs, rd, h2⟩ := onDs_ok rw1 h1
  by_cases hl : xs.length ≤ LIM
  · rw [if_pos hl] at h2
    refine ⟨lim_line (by rw [← rd.length]; exact hl), fun p hp => ?_⟩
    obtain ⟨st, rs, n⟩ := fresh_stp (o := .tup vs) rs1 hp
    exact fin_d h2 fi1 st rs (.tup (.inl (.inl upd_same)) (RDs.stp st _ _ rd))
  · rw [if_neg hl] at h2; cases h2
theorem e_lst (he : EA X xr Wx es ms) : EE X xr Wx (.List es pos) fun ρ => bnd (ms ρ) fun ws => bnd (onDs ws) fun xs => if xs.length ≤ LIM then re (.d (.list xs)) else no := PEw (pe_lst he) fun σ H Q h => by
  obtain ⟨μ, ρ, S, z, hs, hr, hm, fi⟩ := h
  show tA X.K xr Wx ms σ H _
  refine sq (R := rA X.K) hs hr hm fi fun μ1 S1 H1 ws vs st1 rs1 re1 rw1 h1 fi1 => ?_
  obtain ⟨xs, rd, h2⟩ := onDs_ok rw1 h1
  by_cases hl : xs.length ≤ LIM
  · rw [if_pos hl] at h2
    refine ⟨lim_line (by rw [← rd.length]; exact hl), fun p hp => ?_⟩
    obtain ⟨st, rs, n⟩ := fresh_stp (o := .lst vs) rs1 hp
    exact fin_d h2 fi1 st rs (.lst (.inl upd_same) n.1 n.2 (RDs.stp st _ _ rd))
  · rw [if_neg hl] at h2; cases h2
theorem e_lstL (he : EA X xr Wx es ms) : EE X xr Wx (.List es pos) fun ρ => bnd (ms ρ) fun ws => bnd (onDs ws) fun xs => if xs.length ≤ LIM then (fun S => some (.ok (.l S.length) (S ++ [xs]))) else no := PEw (pe_lst he) fun σ H Q h => by
  obtain ⟨μ, ρ, S, z, hs, hr, hm, fi⟩ := h
  show tA X.K xr Wx ms σ H _
  refine sq (R := rA X.K) hs hr hm fi fun μ1 S1 H1 ws vs st1 rs1 re1 rw1 h1 fi1 => ?_
  obtain ⟨xs, rd, h2⟩ := onDs_ok rw1 h1
  by_cases hl : xs.length ≤ LIM
  · rw [if_pos hl] at h2
    refine ⟨lim_line (by rw [← rd.length]; exact hl), fun p hp => ?_⟩
    obtain ⟨st, rs, rw_⟩ := fresh_loc rs1 hp rd
    cases h2
    exact fi1 _ _ _ st rs rw_
  · rw [if_neg hl] at h2; cases h2
theorem atI_rel {K : PySem.W.Frag} {μ : Mu} {H : Hp} {xs : List PyData} {vs : List V} {k : Int} {z : PyData} (r : RDs K μ H xs vs) (h : atI xs k = some z) : ∃ v, atI vs k = some v ∧ RD K μ H z v := by
  unfold atI at h ⊢
  rw [Option.bind_eq_some_iff] at h
  obtain ⟨j, h1, h2⟩ := h
  obtain ⟨v, h3, h4⟩ := r.get h2
  exact ⟨v, by rw [← r.length, h1]; exact h3, h4⟩
theorem e_idx (hp : plIx b = true) (ha : EE X xr Wx a ma) (hb : EE X xr Wx b mb) : EE X xr Wx (.Subscript a b pos) fun ρ => bnd (ma ρ) fun x => bnd (mb ρ) fun y => bnd (asD x) fun dx => bnd (onD y) fun dy => bnd (lift (atD dx dy)) fun z => re (.d z) :=
  PEw (pe_ix ix_seq ha hb (plIx_eq hp)) fun σ H Q h => by
  obtain ⟨μ, ρ, S, z, hs, hr, hm, fi⟩ := h
  show tE X.K xr Wx ma σ H _
  refine sq hs hr hm fi fun μ1 S1 H1 x v st1 rs1 re1 rw1 h1 fi1 => ?_
  show tE X.K xr Wx mb σ H1 _
  refine sq rs1 re1 h1 fi1 fun μ2 S2 H2 y u st2 rs2 re2 rw2 h2 fi2 => ?_
  obtain ⟨dx, rx, h3⟩ := asD_ok rs2 (rw1.stp st2) h2
  obtain ⟨dy, ry, h4⟩ := onD_ok rw2 h3
  obtain ⟨zz, ez, h5⟩ := lift_ok h4
  cases dy <;> cases dx <;> first | (cases ez; done) | skip
  · cases ry
    obtain ⟨a, vs, rfl, q1, q2⟩ := rx.lst
    obtain ⟨v, q3, q4⟩ := atI_rel q2 ez
    exact .inl ⟨a, vs, _, v, rfl, rfl, .inl q1, q3, fin_d h5 fi2 (Stp.refl rs2) rs2 q4⟩
  · cases ry
    obtain ⟨a, vs, rfl, q1, q2⟩ := rx.tup
    obtain ⟨v, q3, q4⟩ := atI_rel q2 ez
    exact .inr (.inl ⟨a, vs, _, v, rfl, rfl, q1, q3, fin_d h5 fi2 (Stp.refl rs2) rs2 q4⟩)

theorem RDs.cutD {K : PySem.W.Frag} {μ : Mu} {H : Hp} {xs : List PyData} {vs : List V} (r : RDs K μ H xs vs) (lo hi : Option Int) : RDs K μ H (DL.cutD xs lo hi) (cutV vs lo hi) := by
  unfold DL.cutD cutV
  rw [← r.length]
  exact (r.drop _).take _
theorem cut_whole {α : Type} {xs : List α} {lo hi : Option Int} (h1 : HT.sIx xs.length 0 lo = 0) (h2 : HT.sIx xs.length xs.length hi = xs.length) : DL.cutD xs lo hi = xs := by
  unfold DL.cutD
  rw [h1, h2]
  simp
def poOf (b : Bool) (e : Expr) : Option Expr := if b = true then some e else none
def tO (K : PySem.W.Frag) (xr : XRel) (Wx : WX) (m : Env' → Mo (Option Int)) : TO := tG K xr Wx (fun _ _ a b => a = b) m
theorem POw {X : Cx} {e : Option Expr} {t t' : TO} (h : PO X e t) (w : ∀ σ H Q, t' σ H Q → t σ H Q) : PO X e t' := ⟨fun pins s σ H Q I q => h.run pins s σ H Q I (w _ _ _ q)⟩
theorem o_part (f : Bool) (hb : f = true → EE X xr Wx b mb) : PO X (poOf f b) (tO X.K xr Wx fun ρ => partO f (mb ρ)) := by
  cases f with
  | false =>
    refine POw po_none fun σ H Q h => ?_
    · obtain ⟨μ, ρ, S, z, hs, hr, hm, fi⟩ := h
      cases hm
      exact fi _ _ _ (Stp.refl hs) hs rfl
  | true =>
    refine POw (po_some (hb rfl)) fun σ H Q h => ?_
    · obtain ⟨μ, ρ, S, z, hs, hr, hm, fi⟩ := h
      have hm : bnd (mb ρ) (fun x => match x with
        | .d (.int i) => re (some i)
        | _ => no) S = some z := hm
      show tE X.K xr Wx mb σ H _
      refine sq hs hr hm fi fun μ1 S1 H1 x v st1 rs1 re1 rw1 h1 fi1 => ?_
      cases x with
      | l j => cases h1
      | x a q => cases h1
      | d d =>
        cases d <;> first | (cases h1; done) | skip
        have rw1 : RD X.K μ1 H1 _ v := rw1
        cases rw1
        cases h1
        exact ⟨_, rfl, fi1 _ _ _ (Stp.refl rs1) rs1 rfl⟩
theorem SlR.or' {r r' : V → Option Int → Option Int → Hp → VK → Prop} (h : SlR X r) (h' : SlR X r') : SlR X (fun x lo hi H Q => r x lo hi H Q ∨ r' x lo hi H Q) := SlR.or h h'
theorem e_slc (f g : Bool) (ha : EE X xr Wx a ma) (hb : f = true → EE X xr Wx b mb) (hc : g = true → EE X xr Wx c mc) : EE X xr Wx (.Subscript a (.Slice (poOf f b) (poOf g c) none p2) pos) fun ρ => bnd (ma ρ) fun x => bnd (partO f (mb ρ)) fun p => bnd (partO g (mc ρ)) fun q => bnd (asD x) fun dx => bnd (lift (slD dx p q)) fun z => re (.d z) :=
  PEw (pe_slice (SlR.or' sl_list sl_tupA) ha (o_part f hb) (o_part g hc)) fun σ H Q h => by
  obtain ⟨μ, ρ, S, z, hs, hr, hm, fi⟩ := h
  show tE X.K xr Wx ma σ H _
  refine sq hs hr hm fi fun μ1 S1 H1 x v st1 rs1 re1 rw1 h1 fi1 => ?_
  show tO X.K xr Wx _ σ H1 _
  refine sq (m := fun ρ => partO f (mb ρ)) rs1 re1 h1 fi1 fun μ2 S2 H2 lo lo' st2 rs2 re2 rw2 h2 fi2 => ?_
  have e2 : lo = lo' := rw2
  subst e2
  show tO X.K xr Wx _ σ H2 _
  refine sq (m := fun ρ => partO g (mc ρ)) rs2 re2 h2 fi2 fun μ3 S3 H3 hi hi' st3 rs3 re3 rw3 h3 fi3 => ?_
  have e3 : hi = hi' := rw3
  subst e3
  obtain ⟨dx, rx, h4⟩ := asD_ok rs3 ((rw1.stp st2).stp st3) h3
  obtain ⟨zz, ez, h5⟩ := lift_ok h4
  cases dx <;> first | (cases ez; done) | skip
  · cases ez
    obtain ⟨a, vs, rfl, q1, q2⟩ := rx.lst
    refine .inl ⟨a, vs, rfl, .inl q1, fun p hp => ?_⟩
    obtain ⟨st, rs, n⟩ := fresh_stp (o := .lst (cutV vs lo hi)) rs3 hp
    exact fin_d h5 fi3 st rs (.lst (.inl upd_same) n.1 n.2 (RDs.stp st _ _ (q2.cutD lo hi)))
  · cases ez
    obtain ⟨a, vs, rfl, q1, q2⟩ := rx.tup
    refine .inr ⟨a, vs, rfl, q1, fun ⟨w1, w2⟩ => ?_, fun _ p hp => ?_⟩
    · rw [cut_whole (by rw [q2.length]; exact w1) (by rw [q2.length]; exact w2)] at h5
      exact fin_d h5 fi3 (Stp.refl rs3) rs3 (.tup q1 q2)
    · obtain ⟨st, rs, n⟩ := fresh_stp (o := .tup (cutV vs lo hi)) rs3 hp
      exact fin_d h5 fi3 st rs (.tup (.inl (.inl upd_same)) (RDs.stp st _ _ (q2.cutD lo hi)))
def nmTy (T : String) : Str := Str.ofString T
theorem ty_boot {T : String} (h : T ∈ tyNames) : bootBuiltins (nmTy T) = some (.type T) ∧ nmTy T ∈ bltNames := by
  simp only [tyNames, List.mem_cons, List.not_mem_nil, or_false] at h
  rcases h with rfl | rfl | rfl | rfl | rfl
  · exact ⟨boot_int, by decide +kernel⟩
  · exact ⟨boot_bool, by decide +kernel⟩
  · exact ⟨boot_tuple, by decide +kernel⟩
  · exact ⟨boot_str, by decide +kernel⟩
  · exact ⟨boot_list, by decide +kernel⟩
theorem e_isi {T : String} (hT : T ∈ tyNames) (hb : ∀ x ∈ bltNames, X.mg x = none) (hg : Gl X "isinstance") (hg2 : Gl X (nmTy T)) (hn : nst a = true) (ho : okN (nmTy T) = true) (ha : EE X xr Wx a ma) :
    EE X xr Wx (.Call (.Name "isinstance" p) [a, .Name (nmTy T) p2] [] pos) fun ρ => bnd (ma ρ) fun x => bnd (asD x) fun dx => bnd (lift (kitB (tyOf dx) T)) fun k => re (.d (.bool k)) := by
  obtain ⟨t1, t2⟩ := ty_boot hT
  obtain ⟨o1, o2, o3⟩ := okN_ok ho
  have hty : PE X (.Name (nmTy T) p2) (tC (.ty T)) := pe_bltn hg2 (hb _ t2) t1 rfl o3 o1
  refine PEw (pe_callB (r := fun vs H Q => ∃ μ x v k, vs = [v, .ty T] ∧ RR X.K μ H x v ∧ kitB (tyOf x) T = some k ∧ Q (.bl k) H) (fun pins s σ H vs us Q I r h => ?_) hg (hb _ (by decide +kernel)) boot_isinstance (pa_cons ha (pa_cons hty pa_nil) (star_cons hn)) (by decide) (by decide) (star_cons hn) (star_any (by rfl))) fun σ H Q h => ?_
  · obtain ⟨μ, x, v, k, rfl, rx, e, q⟩ := h
    exact isin_ok I r rx e q
  · obtain ⟨μ, ρ, S, z, hs, hr, hm, fi⟩ := h
    show tE X.K xr Wx ma σ H _
    refine sq hs hr hm fi fun μ1 S1 H1 x v st1 rs1 re1 rw1 h1 fi1 => ?_
    obtain ⟨dx, rx, h2⟩ := asD_ok rs1 rw1 h1
    obtain ⟨kk, ez, h3⟩ := lift_ok h2
    exact ⟨μ1, dx, v, kk, rfl, rx, ez, fin_d h3 fi1 (Stp.refl rs1) rs1 (.bl _)⟩
theorem blt_boot (b : B1) (h : isMath b = false) : bootBuiltins (nameB b) = some (valB b) ∧ nameB b ∈ bltNames ∧ nameB b ≠ "__name__" := by
  cases b <;> first | (cases h; done) | exact ⟨by first | exact boot_len | exact boot_abs | exact boot_int | exact boot_max | exact boot_min | exact boot_divmod | exact boot_all | exact boot_any | exact boot_sum | exact boot_sorted | exact boot_tuple | exact boot_list, by decide +kernel, by decide +kernel⟩
theorem b_name (b : B1) : (nameB b == ("__debug__" : Str)) = false := by cases b <;> decide +kernel
theorem e_blt (B : B1) (hc : X.calm = true) (hn : nst a = true) (hns : es.all nst = true) (hmg : (isMath B = false ∧ ∀ x ∈ bltNames, X.mg x = none) ∨ (isMath B = true ∧ X.mg (nameB B) = some (valB B))) (hg : Gl X (nameB B)) (ha : EA X xr Wx (a :: es) ms) :
    EE X xr Wx (.Call (.Name (nameB B) p) (a :: es) [] pos) fun ρ => bnd (ms ρ) fun ws => bnd (asDs ws) fun xs => bnd (lift (b1 B xs)) fun z => re (.d z) := by
  obtain ⟨r, h1, h2⟩ := b1_ok (X := X) B hc
  have key : ∀ σ H Q, tE X.K xr Wx (fun ρ => bnd (ms ρ) fun ws => bnd (asDs ws) fun xs => bnd (lift (b1 B xs)) fun z => re (.d z)) σ H Q → tCB r (tA X.K xr Wx ms) σ H Q := fun σ H Q h => by
    obtain ⟨μ, ρ, S, z, hs, hr, hm, fi⟩ := h
    show tA X.K xr Wx ms σ H _
    refine sq (R := rA X.K) hs hr hm fi fun μ1 S1 H1 ws vs st1 rs1 re1 rw1 h3 fi1 => ?_
    obtain ⟨xs, rx, h4⟩ := asDs_ok rs1 rw1 h3
    obtain ⟨zz, ez, h5⟩ := lift_ok h4
    exact h2 μ1 S1 H1 xs vs zz Q rs1 rx ez fun H' w' st' rs' rd => fin_d h5 fi1 st' rs' rd
  rcases hmg with ⟨hM, hb⟩ | ⟨hM, hmg⟩
  · obtain ⟨t1, t2, t3⟩ := blt_boot B hM
    have h3 := hb _ t2
    cases B <;> first
      | (cases hM; done)
      | exact PEw (pe_callB h1 hg h3 t1 ha t3 (b_name _) (star_cons hn) (star_any hns)) key
      | exact PEw (pe_callTy h1 hg h3 t1 ha t3 (b_name _) (star_cons hn) (star_any hns)) key
  · cases B <;> first
      | (cases hM; done)
      | exact PEw (pe_callBfun h1 hg hmg ha (b_name _) (star_cons hn) (star_any hns)) key
theorem cr_repr (hsy : SysK X.K) (hg : X.A.guards = some []) (hu : X.A.units + 65 < cLine) : CallR X (.builtin "repr") (fun vs H Q => ∃ μ d v, vs = [v] ∧ RR X.K μ H d v ∧ reprOk d = true ∧ Q (.str d.shown) H) := by
  intro pins s σ H vs us Q I r h
  obtain ⟨μ, d, v, rfl, rx, ok, q⟩ := h
  obtain ⟨u, rfl, ru⟩ := Vals.one r
  unfold reprOk at ok
  simp only [Bool.and_eq_true] at ok
  obtain ⟨⟨o0, o1, o5⟩, o2, o3, o4⟩ := ok
  have o4 := of_decide_eq_true o4
  have o5 := of_decide_eq_true o5
  have hsz : d.shown.length ≤ sizeLine := by
    have := PyData.shown_le_bulk 2000 (by decide) d o3
    rw [sizeLine_eq]
    omega
  obtain ⟨as, rr, ns⟩ := rx.reads I hsy ru o1
  have fin : ∀ h' u tk, (∀ b o, s.heap.get? b = some o → h'.get? b = some o) → EP X pins σ Q (.str d.shown u) { s with heap := h', toks := tk } := fun h' u tk k => ⟨.str d.shown, H, I.kept k, ⟨_, rfl⟩, q⟩
  have nd : d.hasDict = true → sysModules ∉ as := fun _ => ns
  have hv : ∃ a, v = .ref a := by
    cases d <;> first | (cases o0; done) | skip
    · obtain ⟨a, _, e, _⟩ := rx.lst
      exact ⟨a, e⟩
    · obtain ⟨a, _, e, _⟩ := rx.tup
      exact ⟨a, e⟩
  obtain ⟨a, rfl⟩ := hv
  cases ru
  exact repr_of_reads' rr o2 nd hg (by omega) (fun _ _ e => e) fin hsz
end
end DL

namespace DL
open PySem PySem.Spec PyProof.Rows L2
section
variable {X : Cx} {xr : XRel} {Wx : WX} {pos p p2 : Pos} {a b c e : Expr} {es : List Expr} {ma mb mc m : Env' → Mo W} {ms : Env' → Mo (List W)} {i : Nat} {x : Str}
theorem e_rpr (hsy : SysK X.K) (hgd : X.A.guards = some []) (hu : X.A.units + 65 < cLine) (hb : ∀ x ∈ bltNames, X.mg x = none) (hg : Gl X "repr") (hn : nst a = true) (ha : EE X xr Wx a ma) :
    EE X xr Wx (.Call (.Name "repr" p) [a] [] pos) fun ρ => bnd (ma ρ) fun x => bnd (asD x) fun dx => if reprOk dx = true then re (.d (.str dx.shown)) else no := by
  refine PEw (pe_callB (cr_repr hsy hgd hu) hg (hb _ (by decide +kernel)) boot_repr (pa_cons ha pa_nil (star_cons hn)) (by decide) (by decide) (star_cons hn) (star_any (by rfl))) fun σ H Q h => ?_
  obtain ⟨μ, ρ, S, z, hs, hr, hm, fi⟩ := h
  show tE X.K xr Wx ma σ H _
  refine sq hs hr hm fi fun μ1 S1 H1 x v st1 rs1 re1 rw1 h1 fi1 => ?_
  obtain ⟨dx, rx, h2⟩ := asD_ok rs1 rw1 h1
  by_cases ok : reprOk dx = true
  · rw [if_pos ok] at h2
    exact ⟨μ1, dx, v, rfl, rx, ok, fin_d h2 fi1 (Stp.refl rs1) rs1 (.str _)⟩
  · rw [if_neg ok] at h2; cases h2
abbrev EW (X : Cx) (xr : XRel) (Wx : WX) (e : Expr) (m : Env' → Mo W) : Prop := PW X e (tT X.K xr Wx fun ρ => bnd (m ρ) truthB)
theorem e_and (ha : EE X xr Wx a ma) (hb : EE X xr Wx (.BoolOp .And (b :: es) pos) mb) : EE X xr Wx (.BoolOp .And (a :: b :: es) pos) fun ρ => bnd (ma ρ) fun x => bnd (truthB x) fun k => if k = true then mb ρ else re (.d (.bool false)) :=
  PEw (pe_and ha hb) fun σ H Q h => by
  obtain ⟨μ, ρ, S, z, hs, hr, hm, fi⟩ := h
  show tE X.K xr Wx ma σ H _
  refine sq hs hr hm fi fun μ1 S1 H1 x v st1 rs1 re1 rw1 h1 fi1 => ?_
  obtain ⟨k, rfl, rfl, h2⟩ := truthB_ok rw1 h1
  refine ⟨k, rfl, ?_⟩
  cases k with
  | true => exact ⟨μ1, ρ, S1, z, rs1, re1, h2, fi1⟩
  | false => exact fin_d h2 fi1 (Stp.refl rs1) rs1 (.bl _)
theorem e_or (ha : EE X xr Wx a ma) (hb : EE X xr Wx (.BoolOp .Or (b :: es) pos) mb) : EE X xr Wx (.BoolOp .Or (a :: b :: es) pos) fun ρ => bnd (ma ρ) fun x => bnd (truthB x) fun k => if k = true then re (.d (.bool true)) else mb ρ :=
  PEw (pe_or ha hb) fun σ H Q h => by
  obtain ⟨μ, ρ, S, z, hs, hr, hm, fi⟩ := h
  show tE X.K xr Wx ma σ H _
  refine sq hs hr hm fi fun μ1 S1 H1 x v st1 rs1 re1 rw1 h1 fi1 => ?_
  obtain ⟨k, rfl, rfl, h2⟩ := truthB_ok rw1 h1
  refine ⟨k, rfl, ?_⟩
  cases k with
  | false => exact ⟨μ1, ρ, S1, z, rs1, re1, h2, fi1⟩
  | true => exact fin_d h2 fi1 (Stp.refl rs1) rs1 (.bl _)
theorem w_and (ha : ET X xr Wx a ma) (hb : EW X xr Wx (.BoolOp .And (b :: es) pos) mb) : EW X xr Wx (.BoolOp .And (a :: b :: es) pos) fun ρ => bnd (ma ρ) fun x => bnd (truthB x) fun k => if k = true then mb ρ else re (.d (.bool false)) :=
  PWw (pw_and ha hb) fun σ H Q h => by
  obtain ⟨μ, ρ, S, z, hs, hr, hm, fi⟩ := h
  simp only [bnd_assocF] at hm
  rw [← bnd_assocF (ma ρ)] at hm
  refine sq (m := fun ρ => bnd (ma ρ) truthB) hs hr hm fi fun μ1 S1 H1 x v st1 rs1 re1 rw1 h1 fi1 => ?_
  have e : x = v := rw1
  subst e
  cases x with
  | true =>
    rw [if_pos rfl] at h1 ⊢
    exact ⟨μ1, ρ, S1, z, rs1, re1, h1, fi1⟩
  | false =>
    rw [if_neg (by decide)] at h1 ⊢
    cases h1
    exact fi1 _ _ _ (Stp.refl rs1) rs1 rfl
theorem w_or (ha : ET X xr Wx a ma) (hb : EW X xr Wx (.BoolOp .Or (b :: es) pos) mb) : EW X xr Wx (.BoolOp .Or (a :: b :: es) pos) fun ρ => bnd (ma ρ) fun x => bnd (truthB x) fun k => if k = true then re (.d (.bool true)) else mb ρ :=
  PWw (pw_or ha hb) fun σ H Q h => by
  obtain ⟨μ, ρ, S, z, hs, hr, hm, fi⟩ := h
  simp only [bnd_assocF] at hm
  rw [← bnd_assocF (ma ρ)] at hm
  refine sq (m := fun ρ => bnd (ma ρ) truthB) hs hr hm fi fun μ1 S1 H1 x v st1 rs1 re1 rw1 h1 fi1 => ?_
  have e : x = v := rw1
  subst e
  cases x with
  | false =>
    rw [if_neg (by decide)] at h1 ⊢
    exact ⟨μ1, ρ, S1, z, rs1, re1, h1, fi1⟩
  | true =>
    rw [if_pos rfl] at h1 ⊢
    cases h1
    exact fi1 _ _ _ (Stp.refl rs1) rs1 rfl
variable {T : Tb} {sm : Sm} {k : Nat} {Γ : Cfg} {f : Nat}
theorem call_fi {K : PySem.W.Frag} {mf : List W → Mo W} {μ : Mu} {S : Sto} {H : Hp} {σ : L2.St} {ws : List W} {vs : List V} {Q : VK} {r : Out W} (rs : RS K μ S H) (rw : RWs K μ H ws vs) (h : mf ws S = some r) (fi : Fi K xr Wx (rW K) μ H σ Q r) :
    spD K xr mf vs H Q (fun c d H' => Wx c d σ H') := by
  refine ⟨μ, S, ws, r, rs, rw, h, ?_⟩
  cases r with
  | ok d S' => exact fun μ' H' v st rs' rd => fi μ' H' v st rs' rd
  | exc k a S' => exact fun μ' H' c dd st rs' x => fi μ' H' c dd st rs' x
theorem e_call (g : Gd T sm xr k Γ X Wx) (hcm : Γ.cm = true) (hf : f < T.nf) (hg : glB Γ (T.fname f) = true) (ho : okN (T.fname f) = true) (hn : nst a = true) (hns : es.all nst = true) (ha : EA X xr Wx (a :: es) ms) :
    EE X xr Wx (.Call (.Name (T.fname f) p) (a :: es) [] pos) fun ρ => bnd (ms ρ) fun ws => sm.call f ws := by
  obtain ⟨ad, fd, ps, h1, h2, F, B, _⟩ := g.call f hf
  refine PEw (pe_callG (E := WE Wx) F (g.room hcm) g.grd (g.gl hg) h1 h2 B (fun σ => passAt g.tk σ) ha (okN_ok ho).1 (star_cons hn) (star_any hns)) fun σ H Q h => ?_
  obtain ⟨μ, ρ, S, z, hs, hr, hm, fi⟩ := h
  show tA X.K xr Wx ms σ H _
  refine sq (R := rA X.K) hs hr hm fi fun μ1 S1 H1 ws vs st1 rs1 re1 rw1 h1 fi1 => ?_
  exact call_fi rs1 rw1 h1 fi1
end
end DL

namespace DL
open PySem PySem.Spec PyProof.Rows L2
section
variable {X : Cx} {xr : XRel} {Wx : WX} {pos p p2 kp : Pos} {a b c e : Expr} {es : List Expr} {ma mb mc m : Env' → Mo W} {ms ms2 : Env' → Mo (List W)} {i : Nat} {x : Str} {T : Tb} {sm : Sm} {k : Nat} {Γ : Cfg} {f n : Nat} {kws : List Keyword} {perm : List Nat} {nm : Option Str}
abbrev EK (X : Cx) (xr : XRel) (Wx : WX) (kws : List Keyword) (ms : Env' → Mo (List W)) : Prop := PK X kws (tA X.K xr Wx ms)
theorem PKw {X : Cx} {e : List Keyword} {t t' : TA} (h : PK X e t) (w : ∀ σ H Q, t' σ H Q → t σ H Q) : PK X e t' := ⟨fun pos pins s σ H Q I q => h.run pos pins s σ H Q I (w _ _ _ q)⟩
theorem k_nil : EK X xr Wx [] fun _ => re [] := PKw pk_nil fun σ H Q h => by
  obtain ⟨μ, ρ, S, z, hs, hr, hm, fi⟩ := h
  cases hm
  exact fi _ _ _ (Stp.refl hs) hs .nil
theorem k_cons (ha : EE X xr Wx a ma) (he : EK X xr Wx kws ms) : EK X xr Wx (⟨nm, a, kp⟩ :: kws) fun ρ => bnd (ma ρ) fun w => bnd (ms ρ) fun ws => re (w :: ws) := PKw (pk_cons ha he) fun σ H Q h => by
  obtain ⟨μ, ρ, S, z, hs, hr, hm, fi⟩ := h
  show tE X.K xr Wx ma σ H _
  refine sq hs hr hm fi fun μ1 S1 H1 x v st1 rs1 re1 rw1 h1 fi1 => ?_
  show tA X.K xr Wx ms σ H1 _
  refine sq (R := rA X.K) rs1 re1 h1 fi1 fun μ2 S2 H2 y u st2 rs2 re2 rw2 h2 fi2 => ?_
  cases h2
  exact fi2 _ _ _ (Stp.refl rs2) rs2 (.cons (rw1.stp st2) rw2)
theorem RWs.length {K : PySem.W.Frag} {μ : Mu} {H : Hp} : ∀ {ws : List W} {vs : List V}, RWs K μ H ws vs → ws.length = vs.length
  | _, _, .nil => rfl
  | _, _, .cons _ t => congrArg Nat.succ (RWs.length t)
theorem RWs.append {K : PySem.W.Frag} {μ : Mu} {H : Hp} : ∀ {ws us : List W} {vs zs : List V}, RWs K μ H ws vs → RWs K μ H us zs → RWs K μ H (ws ++ us) (vs ++ zs)
  | _, _, _, _, .nil, q => q
  | _, _, _, _, .cons h t, q => .cons h (RWs.append t q)
theorem RWs.get {K : PySem.W.Frag} {μ : Mu} {H : Hp} : ∀ {ws : List W} {vs : List V} {i : Nat} {w : W}, RWs K μ H ws vs → ws[i]? = some w → ∃ v, vs[i]? = some v ∧ RW K μ H w v
  | _, _, _, _, .nil, e => by simp at e
  | _, _, 0, _, .cons h _, e => by simp at e; subst e; exact ⟨_, rfl, h⟩
  | _, _, i + 1, d, .cons _ t, e => by
    obtain ⟨v, a, b⟩ := RWs.get (i := i) (w := d) t (by simpa using e)
    exact ⟨v, by simpa using a, b⟩
theorem permW_ok {K : PySem.W.Frag} {μ : Mu} {H : Hp} {ws : List W} {vs : List V} (r : RWs K μ H ws vs) : ∀ {perm : List Nat} {us : List W}, permW ws perm = some us → ∃ ys, perm.mapM (fun i => vs[i]?) = some ys ∧ RWs K μ H us ys
  | [], us, h => by
    cases h
    exact ⟨[], by simp, .nil⟩
  | i :: is, us, h => by
    unfold permW at h
    cases e1 : ws[i]? with
    | none => simp [e1] at h
    | some w =>
      cases e2 : permW ws is with
      | none => simp [e1, e2] at h
      | some q =>
        simp [e1, e2] at h
        subst h
        obtain ⟨v, h1, h2⟩ := r.get e1
        obtain ⟨ys, h3, h4⟩ := permW_ok r e2
        exact ⟨v :: ys, by simp [List.mapM_cons, h1, h3], .cons h2 h4⟩
theorem bnd_inv {α β : Type} {m : Mo α} {f : α → Mo β} {S : Sto} {r : Out β} (h : bnd m f S = some r) : (∃ k a S', m S = some (.exc k a S') ∧ r = .exc k a S') ∨ ∃ x S', m S = some (.ok x S') ∧ f x S' = some r := by
  unfold bnd at h
  cases e : m S with
  | none => rw [e] at h; cases h
  | some o =>
    rw [e] at h
    cases o with
    | exc k a S' =>
      cases h
      exact .inl ⟨k, a, S', rfl, rfl⟩
    | ok x S' => exact .inr ⟨x, S', rfl, h⟩
theorem callP_ok {mf : List W → Mo W} {ks : List Str} {ns : Nat}
    (l1 : ∀ ρ S ws S', ms ρ S = some (.ok ws S') → ws.length = ns) (l2 : ∀ ρ S ws S', ms2 ρ S = some (.ok ws S') → ws.length = ks.length) (σ : L2.St) (H : Hp) (Q : VK)
    (h : tE X.K xr Wx (fun ρ => bnd (ms ρ) fun ws => bnd (ms2 ρ) fun us => bnd (lift (permW (ws ++ us) perm)) fun vs => mf vs) σ H Q) :
    tCallP (spD X.K xr mf) (WE Wx) ns ks perm (tA X.K xr Wx ms) (tA X.K xr Wx ms2) σ H Q := by
  obtain ⟨μ, ρ, S, z, hs, hr, hm, fi⟩ := h
  show tA X.K xr Wx ms σ H _
  rcases bnd_inv hm with ⟨k, a, S1, e, rfl⟩ | ⟨ws, S1, e, h1⟩
  · exact ⟨μ, ρ, S, _, hs, hr, e, fi⟩
  · refine ⟨μ, ρ, S, _, hs, hr, e, fun μ1 H1 vs st rs rw_ => ?_⟩
    rcases bnd_inv h1 with ⟨k, a, S2, e2, rfl⟩ | ⟨us, S2, e2, h2⟩
    · exact ⟨μ1, ρ, S1, _, rs, hr.stp st, e2, fi.stp st⟩
    · refine ⟨μ1, ρ, S1, _, rs, hr.stp st, e2, fun μ2 H2 zs st2 rs2 rw2 => ?_⟩
      obtain ⟨vv, ev, h3⟩ := lift_ok h2
      have ra := (rw_.stp st2).append rw2
      obtain ⟨ys, q1, q2⟩ := permW_ok ra ev
      refine ⟨rw_.length.symm.trans (l1 _ _ _ _ e), rw2.length.symm.trans (l2 _ _ _ _ e2), ys, q1, ?_⟩
      exact call_fi rs2 q2 h3 ((fi.stp st).stp st2)
theorem e_callK (g : Gd T sm xr k Γ X Wx) (hcm : Γ.cm = true) (hf : f < T.nf) (hg : glB Γ (T.fname f) = true) (ho : okN (T.fname f) = true) (hk : kwS kws = true) (hmem : ((a :: es).length, kwn kws, perm) ∈ T.kws f)
    (hn : nst a = true) (hns : es.all nst = true) (ha : EA X xr Wx (a :: es) ms) (hkw : EK X xr Wx kws ms2) 
    (l1 : ∀ ρ S ws S', ms ρ S = some (.ok ws S') → ws.length = (a :: es).length) (l2 : ∀ ρ S ws S', ms2 ρ S = some (.ok ws S') → ws.length = (kwn kws).length) :
    EE X xr Wx (.Call (.Name (T.fname f) p) (a :: es) kws pos) fun ρ => bnd (ms ρ) fun ws => bnd (ms2 ρ) fun us => bnd (lift (permW (ws ++ us) perm)) fun vs => sm.call f vs := by
  obtain ⟨ad, fd, ps, h1, h2, F, B, KW⟩ := g.call f hf
  obtain ⟨k1, k2, k3⟩ := kw_facts (env := X.env) (pos := pos) hk
  refine PEw (pe_callP (E := WE Wx) F (g.room hcm) g.grd (g.gl hg) h1 h2 (KW _ _ _ hmem) (fun σ => passAt g.tk σ) ha hkw k1 k2 (okN_ok ho).1 (star_cons hn) (by rw [k3, star_any (by rw [List.all_cons, hn, hns]; rfl)]; rfl)) fun σ H Q h => callP_ok l1 l2 σ H Q h
theorem e_callK0 (g : Gd T sm xr k Γ X Wx) (hcm : Γ.cm = true) (hf : f < T.nf) (hg : glB Γ (T.fname f) = true) (ho : okN (T.fname f) = true) (hk : kwS kws = true) (hmem : (0, kwn kws, perm) ∈ T.kws f)
    (hkw : EK X xr Wx kws ms2) (l2 : ∀ ρ S ws S', ms2 ρ S = some (.ok ws S') → ws.length = (kwn kws).length) :
    EE X xr Wx (.Call (.Name (T.fname f) p) [] kws pos) fun ρ => bnd (re []) fun ws => bnd (ms2 ρ) fun us => bnd (lift (permW (ws ++ us) perm)) fun vs => sm.call f vs := by
  obtain ⟨ad, fd, ps, h1, h2, F, B, KW⟩ := g.call f hf
  obtain ⟨k1, k2, k3⟩ := kw_facts (env := X.env) (pos := pos) hk
  refine PEw (pe_callP0 (E := WE Wx) F (g.room hcm) g.grd (g.gl hg) h1 h2 (KW _ _ _ hmem) (fun σ => passAt g.tk σ) hkw k1 k2 (okN_ok ho).1 (by rw [k3, star_any (by rfl)]; rfl)) fun σ H Q h => ?_
  have h2 := callP_ok (xr := xr) (Wx := Wx) (X := X) (ms := fun _ => re []) (ms2 := ms2) (perm := perm) (mf := sm.call f) (ks := kwn kws) (ns := 0) (fun ρ S ws S' e => by cases e; rfl) l2 σ H Q h
  obtain ⟨μ, ρ, S, r, hs, hr, hm, q⟩ := h2
  cases hm
  exact q μ H [] (Stp.refl hs) hs .nil
theorem evEs_app {Γ : Sm} : ∀ (es fs : List Ex) (ρ : Env') , evEs Γ (es ++ fs) ρ = bnd (evEs Γ es ρ) fun ws => bnd (evEs Γ fs ρ) fun us => re (ws ++ us)
  | [], fs, ρ => by
    funext S
    simp only [List.nil_append, evEs]
    show _ = (bnd (evEs Γ fs ρ) fun us => re us) S
    unfold bnd re
    cases evEs Γ fs ρ S with
    | none => rfl
    | some o => cases o <;> rfl
  | e :: es, fs, ρ => by
    simp only [List.cons_append, evEs, evEs_app es fs ρ, bnd_assocF]
    rfl
theorem evEs_len {Γ : Sm} : ∀ (es : List Ex) (ρ : Env') (S : Sto) (ws : List W) (S' : Sto), evEs Γ es ρ S = some (.ok ws S') → ws.length = es.length
  | [], ρ, S, ws, S', h => by
    cases h
    rfl
  | e :: es, ρ, S, ws, S', h => by
    simp only [evEs, bnd] at h
    split at h <;> first | (cases h; done) | skip
    split at h <;> first | (cases h; done) | skip
    rename_i e2
    cases h
    simp only [List.length_cons]
    rw [evEs_len es _ _ _ _ e2]
end
end DL

namespace DL
open PySem PySem.Spec PyProof.Rows L2
section
variable {X : Cx} {xr : XRel} {Wx : WX} {pos p p1 p2 : Pos} {a b c e : Expr} {es : List Expr} {ma mb mc m : Env' → Mo W} {i : Nat} {x t : Str} {T : Tb} {sm : Sm} {k : Nat} {Γ : Cfg}
theorem e_dct0 : EE X xr Wx (.Dict [] [] pos) fun _ => re (.d (.dict [])) := PEw pe_dnewK fun σ H Q h => by
  obtain ⟨μ, ρ, S, z, hs, hr, hm, fi⟩ := h
  refine fun q hq => ?_
  obtain ⟨st, rs, n⟩ := fresh_stp (o := .dK []) hs hq
  exact fin_d hm fi st rs (.dct (.inl upd_same))
theorem count_bls {b : Bool} : ∀ {bs : List Bool} {us : List Value}, Vals (bs.map V.bl) us → us.countP (eqU (.bl b)) = bs.countP (· == b)
  | [], _, h => by
    cases h
    rfl
  | d :: bs, _, h => by
    cases h with
    | cons r t =>
      have e := eqU_of (x := .bl b) r (by rfl)
      rw [List.countP_cons, List.countP_cons, count_bls t, e]
      rfl
def rCntB (K : PySem.W.Frag) : V → List V → Hp → VK → Prop := fun x xs H Q => ∃ (l : Addr) (bs : List Bool) (b : Bool), x = .ref l ∧ xs = [.bl b] ∧ SqL K H l (bs.map V.bl) ∧ Q (.int (bs.countP (· == b) : Nat)) H
theorem flat_bls (bs : List Bool) : (bs.map V.bl).all flatV = true := by
  rw [List.all_map, List.all_eq_true]
  intro x _
  rfl
theorem mt_cntB : MtR X "list.count" (rCntB X.K) := by
  intro pins s σ H x xs v us Q I rx rxs h
  obtain ⟨l, bs, b, rfl, rfl, hs, q⟩ := h
  cases rx
  obtain ⟨u, rfl, ru⟩ := rxs.one
  obtain ⟨its, rv, ⟨⟨oc, od, dt, sl⟩, n, ho, hc, hdn, hd⟩, hlen⟩ := I.list hs
  simp only at hc hd
  subst hc hd
  have ec : its.toArray.toList.countP (eqU (.bl b)) = bs.countP (· == b) := count_bls rv
  refine call_meets PySem.F.slot_list_count ⟨_, ho, rfl⟩ PySem.F.entry_list_count (PySem.F.args_list_count_2 _ _) (SeqAt.list_countAt l its.toArray n od sl u (eqU (.bl b)))
    ⟨ho, fun y hy => mem_eqAt ru (by rfl) rv (flat_bls bs) y (by simpa using hy), .int (bs.countP (· == b) : Nat), H, I.tok _, ⟨s.toks, ?_⟩, q⟩
  show Value.int ((its.toArray.toList.countP (eqU (.bl b)) : Nat) : Int) s.toks = Value.int ((bs.countP (· == b) : Nat) : Int) s.toks
  rw [ec]
theorem bls_ok {K : PySem.W.Frag} {μ : Mu} {H : Hp} {d : PyData} {v : V} {bs : List Bool} (h : RD K μ H d v) (e : blsD d = some bs) : ∃ l, v = .ref l ∧ Rd H l (.lst (bs.map V.bl)) ∧ RD K μ H d (.ref l) := by
  cases d <;> first | (cases e; done) | skip
  have e : blsOf _ = some bs := e
  have h0 := h
  cases h with
  | lst q1 _ _ q2 =>
    rw [blsOf_eq e] at q2
    rw [q2.bls] at q1
    exact ⟨_, rfl, q1, h0⟩
theorem rd_bls {K : PySem.W.Frag} {μ : Mu} {H : Hp} {d : PyData} {l : Addr} {bs : List Bool} (h : RD K μ H d (.ref l)) (e : blsD d = some bs) : SqL K H l (bs.map V.bl) := by
  obtain ⟨l', e1, q, _⟩ := bls_ok h e
  cases e1
  exact .inl q
theorem bool_ok {K : PySem.W.Frag} {μ : Mu} {H : Hp} {d : PyData} {v : V} {b : Bool} (h : RD K μ H d v) (e : boolD d = some b) : v = .bl b := by
  cases d <;> first | (cases e; done) | skip
  cases e
  cases h
  rfl
theorem e_mcnt {apos cpos : Pos} (hb0 : attributeBase a "count" X.env (eval a X.env) = eval a X.env) (hl : (apos.endLine == cpos.line) = true) (hn : nst b = true) (ha : EE X xr Wx a ma) (hb : EE X xr Wx b mb) :
    EE X xr Wx (.Call (.Attribute a "count" apos) [b] [] cpos) fun ρ => bnd (ma ρ) fun x => bnd (onD x) fun dx => bnd (lift (blsD dx)) fun bs => bnd (mb ρ) fun y => bnd (onD y) fun dy => bnd (lift (boolD dy)) fun c => re (.d (.int (bs.countP (· == c) : Nat))) :=
  PEw (pe_bm PySem.F.plainAttrs_list PySem.F.slot_list_count PySem.F.type_list_count mt_cntB ha (pa_cons hb pa_nil (star_cons hn)) hb0 (by
      rw [star_cons hn]; rfl) hl (star_cons hn) rfl) fun σ H Q h => by
  obtain ⟨μ, ρ, S, z, hs, hr, hm, fi⟩ := h
  show tE X.K xr Wx ma σ H _
  refine sq hs hr hm fi fun μ1 S1 H1 x v st1 rs1 re1 rw1 h1 fi1 => ?_
  obtain ⟨dx, rx, h2⟩ := onD_ok rw1 h1
  obtain ⟨bs, eb, h3⟩ := lift_ok h2
  obtain ⟨l, rfl, q1, rx⟩ := bls_ok rx eb
  refine ⟨.inl ⟨rfl, _, .inl q1⟩, ?_⟩
  show tE X.K xr Wx mb σ H1 _
  refine sq rs1 re1 h3 fi1 fun μ2 S2 H2 y u st2 rs2 re2 rw2 h4 fi2 => ?_
  obtain ⟨dy, ry, h5⟩ := onD_ok rw2 h4
  obtain ⟨c, ec, h6⟩ := lift_ok h5
  have := bool_ok ry ec
  subst this
  exact ⟨l, bs, c, rfl, rfl, rd_bls (RD.stp st2 _ _ rx) eb, fin_d h6 fi2 (Stp.refl rs2) rs2 (.int _)⟩
theorem e_mix {apos cpos : Pos} (hb0 : attributeBase a "index" X.env (eval a X.env) = eval a X.env) (hl : (apos.endLine == cpos.line) = true) (hn : nst b = true) (ha : EE X xr Wx a ma) (hb : EE X xr Wx b mb) :
    EE X xr Wx (.Call (.Attribute a "index" apos) [b] [] cpos) fun ρ => bnd (ma ρ) fun x => bnd (onD x) fun dx => bnd (lift (blsD dx)) fun bs => bnd (mb ρ) fun y => bnd (onD y) fun dy => bnd (lift (boolD dy)) fun c => if bs.any (· == c) = true then re (.d (.int (bs.findIdx (· == c) : Nat))) else no :=
  PEw (pe_bm PySem.F.plainAttrs_list PySem.F.slot_list_index PySem.F.type_list_index mt_index ha (pa_cons hb pa_nil (star_cons hn)) hb0 (by
      rw [star_cons hn]; rfl) hl (star_cons hn) rfl) fun σ H Q h => by
  obtain ⟨μ, ρ, S, z, hs, hr, hm, fi⟩ := h
  show tE X.K xr Wx ma σ H _
  refine sq hs hr hm fi fun μ1 S1 H1 x v st1 rs1 re1 rw1 h1 fi1 => ?_
  obtain ⟨dx, rx, h2⟩ := onD_ok rw1 h1
  obtain ⟨bs, eb, h3⟩ := lift_ok h2
  obtain ⟨l, rfl, q1, rx⟩ := bls_ok rx eb
  refine ⟨.inl ⟨rfl, _, .inl q1⟩, ?_⟩
  show tE X.K xr Wx mb σ H1 _
  refine sq rs1 re1 h3 fi1 fun μ2 S2 H2 y u st2 rs2 re2 rw2 h4 fi2 => ?_
  obtain ⟨dy, ry, h5⟩ := onD_ok rw2 h4
  obtain ⟨c, ec, h6⟩ := lift_ok h5
  have := bool_ok ry ec
  subst this
  by_cases hc : bs.any (· == c) = true
  · rw [if_pos hc] at h6
    have hlt : bs.findIdx (· == c) < bs.length := List.findIdx_lt_length.mpr (by simpa using hc)
    refine ⟨l, bs.map V.bl, .bl c, bs.findIdx (· == c), .bl bs[bs.findIdx (· == c)], rfl, rfl, rd_bls (RD.stp st2 _ _ rx) eb, rfl, flat_bls bs, by simp [hlt], ?_, fun m z' hm' hz => ?_, fin_d h6 fi2 (Stp.refl rs2) rs2 (.int _)⟩
    · have e := List.findIdx_getElem (w := hlt)
      simpa [eqV] using e
    · rw [List.getElem?_map, List.getElem?_eq_getElem (by omega)] at hz
      cases hz
      have e := List.not_of_lt_findIdx hm'
      simpa [eqV] using e
  · rw [if_neg hc] at h6
    cases h6
theorem exAt_ok {x : Option (Addr × Option Addr × Nat)} {w : Option (Option W)} {p : Nat × Option (Addr × PyData)} (h : exAt x w = some p) : ∃ ad d, x = some (ad, d, p.1) ∧ w = some (some (.x ad p.2)) ∧ p.2.map (·.1) = d := by
  unfold exAt at h
  split at h <;> first | (cases h; done) | skip
  rename_i a1 d1 k1 b1 q1
  rw [ite_some_none_eq_some] at h
  obtain ⟨⟨rfl, h2⟩, rfl⟩ := h
  exact ⟨_, _, rfl, rfl, h2⟩
theorem RE.xAt {K : PySem.W.Frag} {μ : Mu} {H : Hp} {ρ : Env'} {σ : L2.St} {ad : Addr} {q : Option (Addr × PyData)} (h : RE K μ H ρ σ) (e : ρ[i]? = some (some (.x ad q))) : σ[i]? = some (some (.ref ad)) ∧ ∀ dd p, q = some (dd, p) → ∃ u, H dd = some (.xd [(("given" : Str), u)]) ∧ RD K μ H p u := by
  obtain ⟨v, h1, h2, h3⟩ := h.at_ i _ e
  subst h2
  exact ⟨h1, h3⟩
theorem e_isE {c : Nat} (g : Gd T sm xr k Γ X Wx) (hb : ∀ x ∈ bltNames, X.mg x = none) (hg : glB Γ "isinstance" = true) (hi : Γ.N[i]? = some x) (hv : visB Γ x = true) (ho : okN x = true) (hc : c < T.nc) (ht : t = if c = 0 then ("ValueError" : Str) else T.cname c) (hgt : glB Γ t = true) (hot : okN t = true) :
    EE X xr Wx (.Call (.Name "isinstance" p) [.Name x p1, .Name t p2] [] pos) fun ρ => bnd (lift (exAt sm.exc ρ[i]?)) fun p => re (.d (.bool (isx p.1 c))) := by
  refine ⟨fun pins s σ H Q I q => ?_⟩
  obtain ⟨μ, ρ, S, z, hs, hr, hm, fi⟩ := q
  obtain ⟨⟨kk, qq⟩, e, h1⟩ := lift_ok hm
  obtain ⟨ad, d, e1, e2, e3⟩ := exAt_ok e
  obtain ⟨cl, exr, CF, su⟩ := g.cls
  have F := su _ _ _ e1
  have T1 := CF.cls kk F.lo F.hi
  obtain ⟨d1, d2⟩ := CF.dgt (by have := F.lo; have := F.hi; omega)
  have kt := CF.kit kk c F.lo F.hi hc
  obtain ⟨s1, s2⟩ := hr.xAt e2
  have hty : PE X (.Name t p2) (tC (clsV cl c)) := by
    unfold clsV
    by_cases h0 : c = 0
    · rw [if_pos h0] at ht ⊢
      subst ht
      exact pe_bltn (g.gl hgt) CF.g0 PyProof.Rows.Boot.«ValueError» rfl (by decide) (by decide)
    · rw [if_neg h0] at ht ⊢
      subst ht
      exact pe_glob (g.gl hgt) (CF.own c (by omega) hc) rfl (okN_ok hot).1
  have hvar : PE X (.Name x p1) (tVar i) := pe_var (g.n hi) (g.vis hv) (okN_ok ho).1 (okN_ok ho).2.1
  obtain ⟨X0, oe, pn, eX, hz, hf⟩ := F.ex
  have cr : CallR X (.builtin "isinstance") (rIsX X.K (cl kk) ad d) := by
    subst eX
    exact call_isEx T1 d1 d2 hz hf
  refine (pe_callB cr (g.gl hg) (hb _ (by decide +kernel)) boot_isinstance (pa_cons hvar (pa_cons hty pa_nil))).run pins s σ H Q I ?_
  refine ⟨.ref ad, s1, clsV cl c, clsVal cl c, isx kk c, rfl, fun u hu => ?_, kt, fun dd ed => ?_, fin_d h1 fi (Stp.refl hs) hs (.bl _)⟩
  · unfold clsV at hu
    unfold clsVal
    by_cases h0 : c = 0
    · rw [if_pos h0] at hu ⊢
      exact hu
    · rw [if_neg h0] at hu ⊢
      exact hu
  · rw [← e3] at ed
    cases qq with
    | none => cases ed
    | some pp =>
      obtain ⟨d3, p3⟩ := pp
      cases ed
      obtain ⟨u, h2, _⟩ := s2 _ _ rfl
      exact ⟨_, h2⟩
theorem e_fld (g : Gd T sm xr k Γ X Wx) (hi : Γ.N[i]? = some x) (hv : visB Γ x = true) (ho : okN x = true) :
    EE X xr Wx (.Attribute (.Name x p) "given" pos) fun ρ => bnd (lift (exAt sm.exc ρ[i]?)) fun p => bnd (lift (p.2.map (·.2))) fun d => re (.d d) := by
  refine ⟨fun pins s σ H Q I q => ?_⟩
  obtain ⟨μ, ρ, S, z, hs, hr, hm, fi⟩ := q
  obtain ⟨⟨kk, qq⟩, e, h1⟩ := lift_ok hm
  obtain ⟨ad, d, e1, e2, e3⟩ := exAt_ok e
  obtain ⟨cl, exr, CF, su⟩ := g.cls
  have F := su _ _ _ e1
  have T1 := CF.cls kk F.lo F.hi
  obtain ⟨s1, s2⟩ := hr.xAt e2
  obtain ⟨dp, e4, h2⟩ := lift_ok h1
  cases qq with
  | none => cases e4
  | some pp =>
    obtain ⟨d3, p3⟩ := pp
    cases e4
    obtain ⟨u, h3, h4⟩ := s2 _ _ rfl
    have hvar : PE X (.Name x p) (tVar i) := pe_var (g.n hi) (g.vis hv) (okN_ok ho).1 (okN_ok ho).2.1
    obtain ⟨X0, oe, pn, eX, hz, hf⟩ := F.ex
    have pr : PE X (.Attribute (.Name x p) "given" pos) (tXf ad (.ref (cl kk)) d (cl kk) "given" (tVar i)) := by
      subst eX
      exact pe_xf ⟨T1.ga, T1.gt, T1.sb, T1.hd⟩ T1.ng hz hf hvar
    refine pr.run pins s σ H Q I ⟨.ref ad, s1, rfl, rfl, d3, [(("given" : Str), u)], u, e3.symm, h3, by simp [List.lookup], fin_d h2 fi (Stp.refl hs) hs h4⟩
end
end DL

namespace DL
open PySem PySem.Spec PyProof.Rows L2

def tGt (K : PySem.W.Frag) (sl : List Nat) (m : PyData → Env' → Mo Env') : TG := fun v σ H Q => ∃ μ ρ S d ρ' S', RS K μ S H ∧ RE K μ H ρ σ ∧ RD K μ H d v ∧ m d ρ S = some (.ok ρ' S') ∧
  ∀ μ' H' σ', Stp μ H μ' H' → RS K μ' S' H' → RE K μ' H' ρ' σ' → (∀ vs : List Nat, (∀ i ∈ sl, i ∈ vs) → wipe σ' vs = wipe σ vs) → Q σ' H'
def tGts (K : PySem.W.Frag) (sl : List Nat) (m : List PyData → Env' → Mo Env') : TGs := fun v σ H Q => ∃ μ ρ S d ρ' S', RS K μ S H ∧ RE K μ H ρ σ ∧ RDs K μ H d v ∧ m d ρ S = some (.ok ρ' S') ∧
  ∀ μ' H' σ', Stp μ H μ' H' → RS K μ' S' H' → RE K μ' H' ρ' σ' → (∀ vs : List Nat, (∀ i ∈ sl, i ∈ vs) → wipe σ' vs = wipe σ vs) → Q σ' H'
theorem wipe_set' {σ : L2.St} {x : Option V} {i : Nat} : ∀ {vs : List Nat}, i ∈ vs → wipe (σ.set i x) vs = wipe σ vs
  | v :: vs, h => by
    unfold wipe
    by_cases hv : i ∈ vs
    · rw [wipe_set' hv]
    · have e : i = v := by
        rcases List.mem_cons.mp h with q | q
        · exact q
        · exact absurd q hv
      subst e
      have key : ∀ (ws : List Nat) (τ : L2.St), i ∉ ws → wipe (τ.set i x) ws = (wipe τ ws).set i x := by
        intro ws
        induction ws with
        | nil => intro τ _; rfl
        | cons w ws ih =>
          intro τ hw
          have h1 : i ≠ w := fun e => hw (by rw [e]; exact List.mem_cons_self)
          have h2 : i ∉ ws := fun z => hw (List.mem_cons_of_mem _ z)
          unfold wipe
          rw [ih τ h2, List.set_comm _ _ (by omega)]
      rw [key vs σ hv, List.set_set]
theorem wipe_none {σ : L2.St} {i : Nat} (h : σ[i]? = some none ∨ σ[i]? = none) : σ.set i none = σ := by
  apply List.ext_getElem?
  intro j
  by_cases e : i = j
  · subst e
    rcases h with h | h
    · have hl := (List.getElem?_eq_some_iff.mp h).1
      rw [List.getElem?_set_self hl, h]
    · have hl := List.getElem?_eq_none_iff.mp h
      rw [List.getElem?_eq_none (by simpa using hl), h]
  · rw [List.getElem?_set_ne e]
section
variable {X : Cx} {xr : XRel} {Wx : WX} {pos p p2 kp : Pos} {a b c e tg : Expr} {es : List Expr} {ma mb mc m : Env' → Mo W} {ms ms2 : Env' → Mo (List W)} {i : Nat} {x : Str} {T : Tb} {sm : Sm} {k : Nat} {Γ : Cfg}
abbrev EG (X : Cx) (tg : Expr) (p : Pat) : Prop := PG X tg (tGt X.K p.slots (asg p))
abbrev EGs (X : Cx) (tg : List Expr) (p : List Pat) : Prop := PGs X tg (tGts X.K (Pat.slotss p) (asgs p))
theorem PGw {X : Cx} {e : Expr} {t t' : TG} (h : PG X e t) (w : ∀ v σ H Q, t' v σ H Q → t v σ H Q) : PG X e t' := ⟨fun pins s σ H v u Q I r q => h.run pins s σ H v u Q I r (w _ _ _ _ q)⟩
theorem PGsw {X : Cx} {e : List Expr} {t t' : TGs} (h : PGs X e t) (w : ∀ v σ H Q, t' v σ H Q → t v σ H Q) : PGs X e t' := ⟨fun pins s σ H v u Q I r q => h.run pins s σ H v u Q I r (w _ _ _ _ q)⟩
theorem g_nm (g : Gd T sm xr k Γ X Wx) (hi : Γ.N[i]? = some x) (hs : stB Γ x = true) : EG X (.Name x p) (.nm i) := by
  obtain ⟨h1, h2⟩ := g.st hs
  refine PGw (pg_name g.xnd (g.n hi) h1 h2) fun v σ H Q h => ?_
  obtain ⟨μ, ρ, S, d, ρ', S', hs, hr, hd, hm, q⟩ := h
  cases hm
  exact q μ H _ (Stp.refl hs) hs (hr.set (w := .d d) hd) fun vs hv => wipe_set' (hv i (by simp [Pat.slots]))
theorem gs_nil : EGs X [] [] := PGsw pgs_nil fun v σ H Q h => by
  obtain ⟨μ, ρ, S, d, ρ', S', hs, hr, hd, hm, q⟩ := h
  cases hd with
  | nil =>
    cases hm
    exact ⟨rfl, q μ H _ (Stp.refl hs) hs hr fun _ _ => rfl⟩
  | cons a b => cases hm
theorem asgn_cons {env : Env} (hn : nst e = true) : assignEach (e :: es) env = (false, assign e env) :: assignEach es env := by
  cases e <;> first | rfl | cases hn
theorem asgn_len {env : Env} : ∀ {es : List Expr}, es.all nst = true → (assignEach es env).length = es.length ∧ (assignEach es env).findIdx? (·.1) = none
  | [], _ => ⟨rfl, rfl⟩
  | e :: es, h => by
    rw [List.all_cons, Bool.and_eq_true] at h
    obtain ⟨a, b⟩ := asgn_len (env := env) h.2
    rw [asgn_cons h.1]
    refine ⟨by simp [a], ?_⟩
    rw [List.findIdx?_cons]
    simp [b]
mutual
theorem asg_ne : ∀ (p : Pat) (d : PyData) (ρ : Env') (S : Sto) (k : Nat) (a : PyData) (S' : Sto), asg p d ρ S ≠ some (.exc k a S')
  | .nm i, d, ρ, S, k, a, S' => by
    rw [asg]
    intro h; cases h
  | .tp ps, d, ρ, S, k, a, S' => by
    cases d <;> first | (simp [asg, no]; done) | skip
    all_goals
      simp only [asg]
      exact asgs_ne ps _ ρ S k a S'
  | .sb i kk, d, ρ, S, k, a, S' => by
    rw [asg]
    intro h
    dsimp only at h
    split at h <;> first | (cases h; done) | skip
    split at h <;> first | (cases h; done) | skip
    split at h <;> cases h
theorem asgs_ne : ∀ (p : List Pat) (d : List PyData) (ρ : Env') (S : Sto) (k : Nat) (a : PyData) (S' : Sto), asgs p d ρ S ≠ some (.exc k a S')
  | [], [], ρ, S, k, a, S' => by
    rw [asgs]
    intro h; cases h
  | [], d :: ds, ρ, S, k, a, S' => by
    rw [asgs]
    · intro h; cases h
    · intro a b; cases b
    · intro a b c d e f; cases e
  | p :: ps, [], ρ, S, k, a, S' => by
    rw [asgs]
    · intro h; cases h
    · intro a b; cases a
    · intro a b c d e f; cases f
  | p :: ps, d :: ds, ρ, S, k, a, S' => by
    rw [asgs]
    intro h
    rcases bnd_inv h with ⟨k, a, S1, e, _⟩ | ⟨x, S1, e, h1⟩
    · exact asg_ne p d ρ S _ _ _ e
    · exact asgs_ne ps ds x S1 _ _ _ h1
end
theorem gs_cons {q : Pat} {qs : List Pat} (hn : nst e = true) (h1 : EG X e q) (h2 : EGs X es qs) : EGs X (e :: es) (q :: qs) := PGsw (pgs_cons h1 h2 (by rw [asgn_cons hn]; rfl)) fun v σ H Q h => by
  obtain ⟨μ, ρ, S, d, ρ', S', hs, hr, hd, hm, fi⟩ := h
  cases hd with
  | nil => rw [asgs] at hm <;> first | cases hm | (intro a b; cases a) | (intro a b c d e f; cases f)
  | cons a b =>
    rw [asgs] at hm
    rcases bnd_inv hm with ⟨k, a, S1, e, _⟩ | ⟨ρ1, S1, e, h1⟩
    · exact absurd e (asg_ne _ _ _ _ _ _ _)
    · refine ⟨_, _, rfl, μ, ρ, S, _, ρ1, S1, hs, hr, a, e, fun μ1 H1 σ1 st rs re wp => ?_⟩
      refine ⟨μ1, ρ1, S1, _, ρ', S', rs, re, RDs.stp st _ _ b, h1, fun μ2 H2 σ2 st2 rs2 re2 wp2 => ?_⟩
      refine fi μ2 H2 σ2 (st.trans st2) rs2 re2 fun vs hv => ?_
      rw [wp2 vs fun i hi => hv i (by simp only [Pat.slotss, List.mem_append]; exact .inr hi), wp vs fun i hi => hv i (by simp only [Pat.slotss, List.mem_append]; exact .inl hi)]
theorem asgs_len : ∀ {p : List Pat} {d : List PyData} {ρ : Env'} {S : Sto} {r : Out Env'}, asgs p d ρ S = some r → (∀ k a S', r ≠ .exc k a S') → p.length = d.length
  | [], [], ρ, S, r, h, _ => rfl
  | [], d :: ds, ρ, S, r, h, _ => by
    rw [asgs] at h
    · cases h
    · intro a b; cases b
    · intro a b c d e f; cases e
  | p :: ps, [], ρ, S, r, h, _ => by
    rw [asgs] at h
    · cases h
    · intro a b; cases a
    · intro a b c d e f; cases f
  | p :: ps, d :: ds, ρ, S, r, h, n => by
    rw [asgs] at h
    rcases bnd_inv h with ⟨k, a, S1, e, q⟩ | ⟨x, S1, e, h1⟩
    · exact absurd q (n _ _ _)
    · simp [asgs_len h1 n]
theorem EGs.len {X : Cx} {es : List Expr} {qs : List Pat} (n : qs.length = es.length) : True := trivial
theorem PG.or_ {X : Cx} {e : Expr} {t u : TG} (h1 : PG X e t) (h2 : PG X e u) : PG X e (fun v σ H Q => t v σ H Q ∨ u v σ H Q) := ⟨fun pins s σ H v z Q I r h => by
  rcases h with h | h
  · exact h1.run pins s σ H v z Q I r h
  · exact h2.run pins s σ H v z Q I r h⟩
theorem g_tp {qs : List Pat} {kk : Nat} (hc : X.calm = true) (hns : es.all nst = true) (hl : qs.length = es.length) (h : EGs X es qs) : EG X (.Tuple es kk pos) (.tp qs) := PGw (PG.or_ (pg_tup hc h (asgn_len hns).1 (asgn_len hns).2) (pg_unl hc h (asgn_len hns).1 (asgn_len hns).2)) fun v σ H Q q => by
  obtain ⟨μ, ρ, S, d, ρ', S', hs, hr, hd, hm, fi⟩ := q
  cases d <;> first | (simp [asg, no] at hm; done) | skip
  · simp only [asg] at hm
    cases hd with
    | lst h1 _ _ h2 =>
      refine .inr ⟨_, _, rfl, .inl h1, ?_, μ, ρ, S, _, ρ', S', hs, hr, h2, hm, fun μ' H' σ' st rs re wp => fi μ' H' σ' st rs re fun vs hv => wp vs fun i hi => hv i (by simp only [Pat.slots]; exact hi)⟩
      rw [← h2.length, ← asgs_len hm (by simp), hl]
  · simp only [asg] at hm
    cases hd with
    | tup h1 h2 =>
      refine .inl ⟨_, _, rfl, h1, ?_, μ, ρ, S, _, ρ', S', hs, hr, h2, hm, fun μ' H' σ' st rs re wp => fi μ' H' σ' st rs re fun vs hv => wp vs fun i hi => hv i (by simp only [Pat.slots]; exact hi)⟩
      rw [← h2.length, ← asgs_len hm (by simp), hl]
theorem g_sb {kk : Int} {c : Nat} (g : Gd T sm xr k Γ X Wx) (hi : Γ.N[i]? = some x) (hv : visB Γ x = true) (ho : okN x = true) : EG X (.Subscript (.Name x p) (.Constant (.int kk) c p2) pos) (.sb i kk) := PGw (pg_sub (pe_var (g.n hi) (g.vis hv) (okN_ok ho).1 (okN_ok ho).2.1) pe_int set_list) fun v σ H Q q => by
  obtain ⟨μ, ρ, S, d, ρ', S', hs, hr, hd, hm, fi⟩ := q
  rw [asg] at hm
  dsimp only at hm
  split at hm <;> first | (cases hm; done) | skip
  rename_i j e1
  split at hm <;> first | (cases hm; done) | skip
  rename_i xs e2
  split at hm <;> first | (cases hm; done) | skip
  rename_i mm e3
  cases hm
  obtain ⟨v', ev, aj, ej, rfl⟩ := hr.at_ i _ e1
  obtain ⟨vs, e4, r4⟩ := hs.at_ j aj xs ej e2
  obtain ⟨st, rs⟩ := write_loc hs ej (RDs.set mm hd r4)
  exact ⟨_, ev, aj, vs, kk, mm, rfl, rfl, e4, by rw [← r4.length]; exact e3, fi μ _ σ st rs (hr.stp st) fun _ _ => rfl⟩
end
end DL

namespace DL
open PySem PySem.Spec PyProof.Rows L2
section
variable {K : PySem.W.Frag} {μ μ' : Mu} {S S' : Sto} {H H' : Hp} {D : Addr}
theorem fresh_hid (hs : RS K μ S H) {vs : List V} (hD : H D = none) : Stp μ H ⟨μ.l, D :: μ.h⟩ (upd H D (.lst vs)) ∧ RS K ⟨μ.l, D :: μ.h⟩ S (upd H D (.lst vs)) := by
  obtain ⟨_, _, n1, n2⟩ := fresh_stp (o := .lst vs) hs hD
  have st : Stp μ H ⟨μ.l, D :: μ.h⟩ (upd H D (.lst vs)) := ⟨⟨[], by simp⟩, fun a u h _ => by rw [upd_ne (ne_of_none h hD)]; exact h, fun _ h => .inl h, hs.lstAt, fun a h => by
    rcases List.mem_cons.mp h with q | q
    · subst q; exact .inr hD
    · exact .inl q, fun a h => List.mem_cons_of_mem _ h⟩
  refine ⟨st, hs.len, hs.nd, fun j a xs e1 e2 => ?_, fun a ha => ?_⟩
  · obtain ⟨us, a1, a2⟩ := hs.at_ j a xs e1 e2
    exact ⟨us, by rw [upd_ne (ne_of_none a1 hD)]; exact a1, RDs.stp st xs us a2⟩
  · rcases List.mem_cons.mp ha with q | q
    · subst q
      exact ⟨n1, vs, upd_same⟩
    · obtain ⟨h1, us, h2⟩ := hs.hid a q
      exact ⟨h1, us, by rw [upd_ne (ne_of_none h2 hD)]; exact h2⟩
theorem Stp.updHid {o : HO} (hD : H D = none) (s : Stp μ H μ' H') : Stp μ H μ' (upd H' D o) := ⟨s.pre, fun a u h n => by rw [upd_ne (ne_of_none h hD)]; exact s.keep a u h n, s.new, s.old, s.hnew, s.hsub⟩
theorem drop_hid {acc : List PyData} {vs : List V} (hs0 : RS K μ S H) (hD : H D = none) (s : Stp μ H μ' H') (hs : RS K μ' S' H') (hd : D ∈ μ'.h) (e : H' D = some (.lst vs)) (r : RDs K μ' H' acc vs) :
    Stp μ H ⟨μ'.l, μ.h⟩ H' ∧ RS K ⟨μ'.l, μ.h⟩ S' H' ∧ RD K ⟨μ'.l, μ.h⟩ H' (.list acc) (.ref D) := by
  have g : Gen K μ' H' ⟨μ'.l, μ.h⟩ H' := gen_less fun a h => by
    rcases h with q | q
    · exact .inl q
    · exact .inr (s.hsub a q)
  refine ⟨⟨s.pre, s.keep, s.new, s.old, fun _ h => .inl h, fun _ h => h⟩, ⟨hs.len, hs.nd, fun j a xs e1 e2 => ?_, fun a ha => hs.hid a (s.hsub a ha)⟩, .lst (.inl e) (hs.hid D hd).1 (fun z => ?_) (RDs.gen g _ _ r)⟩
  · obtain ⟨us, a1, a2⟩ := hs.at_ j a xs e1 e2
    exact ⟨us, a1, RDs.gen g _ _ a2⟩
  · obtain ⟨_, us, q⟩ := hs0.hid D z
    rw [hD] at q; cases q
theorem RE.wipe {ρ : Env'} {σ : L2.St} (h : RE K μ H ρ σ) : ∀ vs : List Nat, RE K μ H (wipeE ρ vs) (L2.wipe σ vs)
  | [] => h
  | v :: vs => (RE.wipe h vs).clear
end
theorem wipe_sub {σ : L2.St} {vs : List Nat} : ∀ {ws : List Nat}, (∀ i ∈ ws, i ∈ vs) → wipe (wipe σ ws) vs = wipe σ vs
  | [], _ => rfl
  | w :: ws, h => by
    show wipe ((wipe σ ws).set w none) vs = _
    rw [wipe_set' (h w List.mem_cons_self)]
    exact wipe_sub fun i hi => h i (List.mem_cons_of_mem _ hi)
theorem noexc_ok {α : Type} {m : Mo α} {S : Sto} {r : Out α} (h : noexc m S = some r) : ∃ x S', m S = some (.ok x S') ∧ r = .ok x S' := by
  unfold noexc at h
  split at h
  · cases h; exact ⟨_, _, by assumption, rfl⟩
  · cases h
theorem staying_ok {α : Type} {S0 : Sto} {g : List Nat} {m : Mo α} {S : Sto} {r : Out α} (h : staying S0 g m S = some r) : stay S0 S g ∧ m S = some r := by
  classical
  unfold staying at h
  split at h
  · exact ⟨by assumption, h⟩
  · cases h
abbrev W0 : WX := fun _ _ _ _ => False
section
variable {X : Cx} {xr : XRel} {Wx : WX} {pos : Pos} {tg iter elt : Expr} {ifs : List Expr} {ms : Env' → Mo (List W)} {me : Env' → Mo W} {mc : Env' → Mo Bool} {T : Tb} {sm : Sm} {k : Nat} {Γ : Cfg} {scope : Scope} {ownp : List (Str × Nat)} {own : List Nat} {kk : SK} {q : Pat}
noncomputable abbrev cmprM (kk : SK) (ms : Env' → Mo (List W)) (q : Pat) (mc : Env' → Mo Bool) (me : Env' → Mo W) (own : List Nat) : Env' → Mo W := fun ρ => bnd (ms ρ) fun ws => fun S => match itemsOf kk ws S with
    | some (xs, g) => if xs.length ≤ LIM then (bnd (noexc (compL (asg q) mc me S g (wipeE ρ own) xs [])) fun ys => re (.d (.list ys))) S else none
    | none => none
theorem lc_read (hsl : ∀ i ∈ q.slots, i ∈ own) (σ : L2.St) (H : Hp) (Q : VK) (h : tE X.K xr Wx (cmprM kk ms q mc me own) σ H Q) :
    tLc (tI X.K xr Wx kk ms) (tGt X.K q.slots (asg q)) (tT X.K xr W0 mc) (tE X.K xr W0 me) own σ H Q := by
  obtain ⟨μ, ρ, S, z, hs, hr, hm, fi⟩ := h
  show tI X.K xr Wx kk ms σ H _
  rcases bnd_inv hm with ⟨k, a, S1, e, rfl⟩ | ⟨ws, S1, e, h1⟩
  · exact ⟨μ, ρ, S, _, hs, hr, e, fi⟩
  refine ⟨μ, ρ, S, _, hs, hr, e, ?_⟩
  dsimp only at h1 ⊢
  split at h1
  · rename_i xs g ei
    split at h1
    · rename_i hlen
      rcases bnd_inv h1 with ⟨k, a, S2, e2, _⟩ | ⟨ys, S2, e2, h2⟩
      · obtain ⟨_, _, _, e3⟩ := noexc_ok e2
        cases e3
      obtain ⟨ys', S2', e3, e4⟩ := noexc_ok e2
      cases e4
      cases h2
      refine ⟨xs, g, ei, fun μ1 H1 J st1 rs1 liv D hD => ?_⟩
      obtain ⟨stD, rsD⟩ := fresh_hid (vs := []) rs1 hD
      refine ⟨fun i m H' => i ≤ xs.length ∧ m = xs.length - i ∧ ∃ μ' S' acc accV, D ∈ μ'.h ∧ Stp μ1 H1 μ' H' ∧ RS X.K μ' S' H' ∧ H' D = some (.lst accV) ∧ RDs X.K μ' H' acc accV ∧ acc.length ≤ i ∧
        compL (asg q) mc me S1 g (wipeE ρ own) (xs.drop i) acc S' = some (.ok ys S2), ⟨xs.length, by omega, by omega, _, S1, [], [], List.mem_cons_self, stD, rsD, upd_same, .nil, by simp, by simpa using e3⟩, ?_⟩
      rintro i m H' ⟨hi, rfl, μ', S', acc, accV, hd, st, rs, eD, ra, hal, hc⟩
      by_cases hx : i = xs.length
      · subst hx
        rw [List.drop_length, compL] at hc
        obtain ⟨sy, hc⟩ := staying_ok hc
        cases hc
        refine .inl ⟨(liv μ' _ H' st rs sy).2, ?_⟩
        obtain ⟨k1, k2, k3⟩ := drop_hid rs1 hD st rs hd eD ra
        exact fi _ _ _ (st1.trans k1) k2 k3
      · have hlt : i < xs.length := by omega
        rw [List.drop_eq_getElem_cons hlt, compL] at hc
        obtain ⟨sy, hc⟩ := staying_ok hc
        obtain ⟨go, yl⟩ := (liv μ' S' H' st rs sy).1 i xs[i] (List.getElem?_eq_getElem hlt)
        refine .inr ⟨go, _, fun H'' w => ⟨xs.length - (i + 1), by omega, w⟩, fun x' H2 y => ?_⟩
        obtain ⟨st2, rs2, rd2⟩ := yl x' H2 y
        rcases bnd_inv hc with ⟨k, a, S3, e5, _⟩ | ⟨ρ2, S3, e5, h5⟩
        · exact absurd e5 (asg_ne _ _ _ _ _ _ _)
        refine ⟨μ', wipeE ρ own, S', xs[i], ρ2, S3, rs2, ((((hr.stp st1).stp st).stp st2).wipe own), rd2, e5, fun μ3 H3 σ3 st3 rs3 re3 wp3 => ⟨(wp3 own hsl).trans (wipe_sub fun _ h => h), ?_⟩⟩
        have fi0 : Fi X.K xr W0 (fun _ _ (_ : List PyData) (_ : Unit) => False) μ3 H3 σ3 (fun _ _ => True) (.ok ys S2) := fun _ _ _ _ _ _ => trivial
        refine sq rs3 re3 h5 fi0 fun μ4 S4 H4 b b' st4 rs4 re4 rw4 h6 fi4 => ?_
        have eb : b = b' := rw4
        subst eb
        have eD4 : H4 D = some (.lst accV) := st4.keep _ _ (st3.keep _ _ (st2.keep _ _ eD (rs.hid D hd).1) (rs2.hid D hd).1) (rs3.hid D (st3.hsub D hd)).1
        have hd4 : D ∈ μ4.h := st4.hsub D (st3.hsub D hd)
        have st14 : Stp μ1 H1 μ4 H4 := ((st.trans st2).trans st3).trans st4
        have ra4 : RDs X.K μ4 H4 acc accV := RDs.stp st4 _ _ (RDs.stp st3 _ _ (RDs.stp st2 _ _ ra))
        cases b with
        | false =>
          rw [if_neg (by decide)] at h6 ⊢
          exact ⟨by omega, rfl, μ4, S4, acc, accV, hd4, st14, rs4, eD4, ra4, by omega, h6⟩
        | true =>
          rw [if_pos rfl] at h6 ⊢
          refine sq rs4 re4 h6 fi4 fun μ5 S5 H5 w y st5 rs5 re5 rw5 h7 fi5 => ?_
          obtain ⟨d, rd5, h8⟩ := onD_ok rw5 h7
          have eD5 : H5 D = some (.lst accV) := st5.keep _ _ eD4 (rs4.hid D hd4).1
          have hd5 : D ∈ μ5.h := st5.hsub D hd4
          have gg : Gen X.K μ5 H5 μ5 (upd H5 D (.lst (accV ++ [y]))) := hid_gen hd5 ⟨_, eD5⟩
          have hl := ra4.length
          refine ⟨accV, eD5, ?_, ⟨by omega, rfl, μ5, S5, acc ++ [d], accV ++ [y], hd5, (st14.trans st5).updHid hD, hid_write rs5 hd5, upd_same, RDs.gen gg _ _ ((RDs.stp st5 _ _ ra4).append (.cons rd5 .nil)), by simp; omega, h8⟩⟩
          rw [sizeLine_eq]
          have : LIM = 100000 := rfl
          omega
    · cases h1
  · cases h1
theorem e_cmpr (g : Gd T sm xr k Γ X Wx) (hcm : Γ.cm = true) (hi : PI X tg iter (tI X.K xr Wx kk ms)) (ok : BlkOk X.N X.env.scope scope ownp) (ho : ownp.map (·.2) = own) (hsl : ∀ i ∈ q.slots, i ∈ own) (hn : nset iter = true)
    (hg : ∀ (s : Shared) (H : Hp) (C : Addr) (cl : List (Str × Addr)) (fp : List Addr), EG (X.blk s H scope (compEnvC scope cl C X.env) fp) tg q)
    (ht : ∀ (s : Shared) (H : Hp) (C : Addr) (cl : List (Str × Addr)) (fp : List Addr), PTs (X.blk s H scope (compEnvC scope cl C X.env) fp) ifs (tT X.K xr W0 mc))
    (he : ∀ (s : Shared) (H : Hp) (C : Addr) (cl : List (Str × Addr)) (fp : List Addr), EE (X.blk s H scope (compEnvC scope cl C X.env) fp) xr W0 elt me) :
    EE X xr Wx (.ListComp elt [⟨tg, iter, ifs, 0⟩] scope pos) (cmprM kk ms q mc me own) := by
  subst ho
  exact PEw (pe_lc (g.calm hcm) g.xnd hi ok hg ht he (nset_eq hn)) fun σ H Q h => lc_read hsl σ H Q h
end
end DL

namespace DL
open PySem PySem.Spec PyProof.Rows L2

def srcArgs (Γ : Cfg) (tg : Expr) : SK → Expr → Option (List Expr)
  | .seq, e => some [e]
  | .rng1, e => match e with
    | .Call (.Name n _) [a] [] _ => if decide (n = "range") && glB Γ "range" && nst a then some [a] else none
    | _ => none
  | .rng2, e => match e with
    | .Call (.Name n _) [a, b] [] _ => if decide (n = "range") && glB Γ "range" && nst a && nst b then some [a, b] else none
    | _ => none
  | .enum, e => match tg, e with
    | .Tuple _ _ _, .Call (.Name n _) [a] [] _ => if decide (n = "enumerate") && glB Γ "enumerate" && nst a then some [a] else none
    | _, _ => none
  | .zip, e => match tg, e with
    | .Tuple _ _ _, .Call (.Name n _) [a, b] [] _ => if decide (n = "zip") && glB Γ "zip" && nst a && nst b then some [a, b] else none
    | _, _ => none
mutual
def chkP (Γ : Cfg) : Pat → Expr → Bool
  | .nm i, x => match x with
    | .Name n _ => decide (Γ.N[i]? = some n) && stB Γ n
    | _ => false
  | .tp ps, x => match x with
    | .Tuple es _ _ => Γ.cm && es.all nst && decide (ps.length = es.length) && chkPs Γ ps es
    | _ => false
  | .sb i k, x => match x with
    | .Subscript (.Name n _) (.Constant (.int j) _ _) _ => decide (Γ.N[i]? = some n) && visB Γ n && okN n && decide (j = k)
    | _ => false
def chkPs (Γ : Cfg) : List Pat → List Expr → Bool
  | [], xs => xs.isEmpty
  | p :: ps, xs => match xs with
    | x :: xs => nst x && chkP Γ p x && chkPs Γ ps xs
    | [] => false
end
def ownP (Γ : Cfg) (own : List Nat) : List (Str × Nat) := own.filterMap fun i => (Γ.N[i]?).map fun n => (n, i)
abbrev blkG (Γ : Cfg) (scope : Scope) : Cfg := { Γ with sc := relS scope Γ.sc, raw := some scope }
mutual
def chkE (T : Tb) : Ex → Cfg → Expr → Bool
  | .var i, Γ, x => match x with
    | .Name n _ => decide (Γ.N[i]? = some n) && visB Γ n && okN n
    | _ => false
  | .cI i, _, x => match x with
    | .Constant (.int j) _ _ => decide (i = j)
    | _ => false
  | .cB i, _, x => match x with
    | .Constant (.bool j) _ _ => decide (i = j)
    | _ => false
  | .cN, _, x => match x with
    | .Constant .none _ _ => true
    | _ => false
  | .cS i, _, x => match x with
    | .Constant (.str j) _ _ => decide (i = j)
    | _ => false
  | .glo g, Γ, x => match x with
    | .Name n _ => decide (n = T.gname g) && glB Γ n && okN n
    | _ => false
  | .bin o a b, Γ, x => match x with
    | .BinOp l op r _ => decide (op = tokO o) && chkE T a Γ l && chkE T b Γ r
    | _ => false
  | .neg a, Γ, x => match x with
    | .UnaryOp .USub l _ => chkE T a Γ l
    | _ => false
  | .cmp o a b, Γ, x => match x with
    | .Compare l [op] [r] _ => decide (op = tokC o) && nset r && chkE T a Γ l && chkE T b Γ r
    | _ => false
  | .chn o o' a b c, Γ, x => match x with
    | .Compare l [op, op'] [r, s] _ => decide (op = tokC o) && decide (op' = tokC o') && nset s && chkE T a Γ l && chkE T b Γ r && chkE T c Γ s
    | _ => false
  | .and es, Γ, x => match x with
    | .BoolOp .And vs _ => !es.isEmpty && chkEs T es Γ vs
    | _ => false
  | .or es, Γ, x => match x with
    | .BoolOp .Or vs _ => !es.isEmpty && chkEs T es Γ vs
    | _ => false
  | .not a, Γ, x => match x with
    | .UnaryOp .Not l _ => chkE T a Γ l
    | _ => false
  | .ite t a b, Γ, x => match x with
    | .IfExp u l r _ => chkE T t Γ u && chkE T a Γ l && chkE T b Γ r
    | _ => false
  | .tup es, Γ, x => match x with
    | .Tuple vs _ _ => vs.all nst && chkEs T es Γ vs
    | _ => false
  | .lst es, Γ, x => match x with
    | .List vs _ => vs.all nst && chkEs T es Γ vs
    | _ => false
  | .lstL es, Γ, x => match x with
    | .List vs _ => vs.all nst && chkEs T es Γ vs
    | _ => false
  | .idx a i, Γ, x => match x with
    | .Subscript l r _ => plIx r && chkE T a Γ l && chkE T i Γ r
    | _ => false
  | .slc a f lo g hi, Γ, x => match x with
    | .Subscript l (.Slice lo' hi' none _) _ => chkE T a Γ l && (match f, lo' with
        | true, some e => chkE T lo Γ e
        | false, none => true
        | _, _ => false) && (match g, hi' with
        | true, some e => chkE T hi Γ e
        | false, none => true
        | _, _ => false)
    | _ => false
  | .isi Ty a, Γ, x => match x with
    | .Call (.Name n _) [y, .Name t _] [] _ => decide (n = "isinstance") && decide (t = nmTy Ty) && decide (Ty ∈ tyNames) && glB Γ n && glB Γ t && okN t && nst y && chkE T a Γ y
    | _ => false
  | .blt b es, Γ, x => match x with
    | .Call (.Name n _) (y :: ys) [] _ => Γ.cm && decide (n = nameB b) && glB Γ n && (!isMath b || decide (b ∈ T.maths)) && nst y && ys.all nst && chkEs T es Γ (y :: ys)
    | _ => false
  | .rpr a, Γ, x => match x with
    | .Call (.Name n _) [y] [] _ => decide (n = "repr") && glB Γ n && nst y && chkE T a Γ y
    | _ => false
  | .call f es, Γ, x => match x with
    | .Call (.Name n _) (y :: ys) [] _ => Γ.cm && decide (f < T.nf) && decide (n = T.fname f) && glB Γ n && okN n && nst y && ys.all nst && chkEs T es Γ (y :: ys)
    | _ => false
  | .callK f m perm es, Γ, x => match x with
    | .Call (.Name n _) ys kws _ => Γ.cm && decide (f < T.nf) && decide (n = T.fname f) && glB Γ n && okN n && ys.all nst && kwS kws && decide ((m, kwn kws, perm) ∈ T.kws f) && decide (m = ys.length) && decide ((kwv kws).length = (kwn kws).length) && chkEs T es Γ (ys ++ kwv kws)
    | _ => false
  | .cmpr k src p cs e own, Γ, x => match x with
    | .ListComp elt [⟨tg, iter, ifs, 0⟩] scope _ => Γ.cm && nset iter && blkC Γ.N Γ.sc scope (ownP Γ own) && decide ((ownP Γ own).map (·.2) = own) && (p.slots.all fun i => decide (i ∈ own)) && decide (cs.length ≤ 1) && (match srcArgs Γ tg k iter with
        | some ys => chkEs T src Γ ys
        | none => false) && chkP (blkG Γ scope) p tg && chkEs T cs (blkG Γ scope) ifs && chkE T e (blkG Γ scope) elt
    | _ => false
  | .dct0, _, x => match x with
    | .Dict [] [] _ => true
    | _ => false
  | .isE i c, Γ, x => match x with
    | .Call (.Name n _) [.Name y _, .Name t _] [] _ => decide (n = "isinstance") && glB Γ "isinstance" && decide (Γ.N[i]? = some y) && visB Γ y && okN y && decide (c < T.nc) && decide (t = if c = 0 then ("ValueError" : Str) else T.cname c) && glB Γ t && okN t
    | _ => false
  | .fld i, Γ, x => match x with
    | .Attribute (.Name y _) f _ => decide (f = "given") && decide (Γ.N[i]? = some y) && visB Γ y && okN y
    | _ => false
  | .mcnt a b, Γ, x => match x with
    | .Call (.Attribute (.Name y p) f apos) [r] [] cpos => decide (f = "count") && (apos.endLine == cpos.line) && nst r && chkE T a Γ (.Name y p) && chkE T b Γ r
    | _ => false
  | .mix a b, Γ, x => match x with
    | .Call (.Attribute (.Name y p) f apos) [r] [] cpos => decide (f = "index") && (apos.endLine == cpos.line) && nst r && chkE T a Γ (.Name y p) && chkE T b Γ r
    | _ => false
def chkEs (T : Tb) : List Ex → Cfg → List Expr → Bool
  | [], _, xs => xs.isEmpty
  | e :: es, Γ, xs => match xs with
    | x :: xs => chkE T e Γ x && chkEs T es Γ xs
    | [] => false
end
end DL

namespace DL
open PySem PySem.Spec PyProof.Rows L2
variable {T : Tb} {sm : Sm} {xr : XRel} {k : Nat}
mutual
theorem sndP {Γ : Cfg} {X : Cx} {Wx : WX} (g : Gd T sm xr k Γ X Wx) : ∀ (p : Pat) (x : Expr), chkP Γ p x = true → EG X x p
  | .nm i, x, h => by
    unfold chkP at h
    split at h
    · simp only [Bool.and_eq_true, decide_eq_true_eq] at h
      exact g_nm g h.1 h.2
    · cases h
  | .tp ps, x, h => by
    unfold chkP at h
    split at h
    · simp only [Bool.and_eq_true, decide_eq_true_eq] at h
      exact g_tp (g.calm h.1.1.1) h.1.1.2 h.1.2 (sndPs g ps _ h.2)
    · cases h
  | .sb i kk, x, h => by
    unfold chkP at h
    split at h
    · simp only [Bool.and_eq_true, decide_eq_true_eq] at h
      obtain ⟨⟨⟨h1, h2⟩, h3⟩, rfl⟩ := h
      exact g_sb g h1 h2 h3
    · cases h
theorem sndPs {Γ : Cfg} {X : Cx} {Wx : WX} (g : Gd T sm xr k Γ X Wx) : ∀ (p : List Pat) (x : List Expr), chkPs Γ p x = true → EGs X x p
  | [], xs, h => by
    unfold chkPs at h
    cases xs with
    | nil => exact gs_nil
    | cons => cases h
  | p :: ps, xs, h => by
    unfold chkPs at h
    cases xs with
    | nil => cases h
    | cons x xs =>
      simp only [Bool.and_eq_true] at h
      exact gs_cons h.1.1 (sndP g p x h.1.2) (sndPs g ps xs h.2)
end
theorem if_re : (fun k : Bool => if k = true then re true else re false) = (re : Bool → Mo Bool) := by
  funext k
  cases k <;> rfl
theorem bnd_re' {α : Type} (m : Mo α) : bnd m re = m := by
  funext S
  unfold bnd re
  cases m S with
  | none => rfl
  | some o => cases o <;> rfl
inductive All2 (sm : Sm) (X : Cx) (xr : XRel) (Wx : WX) : List Ex → List Expr → Prop
  | nil : All2 sm X xr Wx [] []
  | cons {e : Ex} {x : Expr} {es : List Ex} {xs : List Expr} : EE X xr Wx x (evE sm e) → ET X xr Wx x (evE sm e) → All2 sm X xr Wx es xs → All2 sm X xr Wx (e :: es) (x :: xs)
section
variable {X : Cx} {Wx : WX} {pos : Pos}
theorem All2.len : ∀ {es : List Ex} {xs : List Expr}, All2 sm X xr Wx es xs → es.length = xs.length
  | _, _, .nil => rfl
  | _, _, .cons _ _ t => congrArg Nat.succ (All2.len t)
theorem All2.args : ∀ {es : List Ex} {xs : List Expr}, All2 sm X xr Wx es xs → xs.all nst = true → EA X xr Wx xs (evEs sm es)
  | _, _, .nil, _ => by
    have := a_nil (X := X) (xr := xr) (Wx := Wx)
    simpa only [evEs] using this
  | _, _, .cons h _ t, n => by
    rw [List.all_cons, Bool.and_eq_true] at n
    have := a_cons n.1 h (t.args n.2)
    simpa only [evEs] using this
theorem All2.split : ∀ {es : List Ex} {ys zs : List Expr}, All2 sm X xr Wx es (ys ++ zs) → ∃ es1 es2, es = es1 ++ es2 ∧ All2 sm X xr Wx es1 ys ∧ All2 sm X xr Wx es2 zs
  | es, [], zs, h => ⟨[], es, rfl, .nil, h⟩
  | _, y :: ys, zs, .cons h1 h2 t => by
    obtain ⟨a, b, rfl, p, q⟩ := t.split
    exact ⟨_ :: a, b, rfl, .cons h1 h2 p, q⟩
theorem All2.kws : ∀ {kws : List Keyword} {es : List Ex}, All2 sm X xr Wx es (kwv kws) → EK X xr Wx kws (evEs sm es)
  | [], _, .nil => by
    have := k_nil (X := X) (xr := xr) (Wx := Wx)
    simpa only [evEs] using this
  | ⟨n, e, kp⟩ :: r, _, .cons h _ t => by
    have := k_cons (nm := n) (kp := kp) h (All2.kws t)
    simpa only [evEs] using this
theorem All2.andV : ∀ {es : List Ex} {xs : List Expr}, All2 sm X xr Wx es xs → es ≠ [] → EE X xr Wx (.BoolOp .And xs pos) (andE sm es) ∧ EW X xr Wx (.BoolOp .And xs pos) (andE sm es)
  | _, _, .nil, n => absurd rfl n
  | _, _, .cons h1 h2 .nil, _ => by
    simp only [andE]
    exact ⟨pe_one h1, pw_and1 h2⟩
  | _, _, .cons h1 h2 (.cons h3 h4 t), _ => by
    obtain ⟨a, b⟩ := All2.andV (.cons h3 h4 t) (by simp)
    simp only [andE]
    exact ⟨e_and h1 a, w_and h2 b⟩
theorem All2.orV : ∀ {es : List Ex} {xs : List Expr}, All2 sm X xr Wx es xs → es ≠ [] → EE X xr Wx (.BoolOp .Or xs pos) (orE sm es) ∧ EW X xr Wx (.BoolOp .Or xs pos) (orE sm es)
  | _, _, .nil, n => absurd rfl n
  | _, _, .cons h1 h2 .nil, _ => by
    simp only [orE]
    exact ⟨pe_one h1, pw_or1 h2⟩
  | _, _, .cons h1 h2 (.cons h3 h4 t), _ => by
    obtain ⟨a, b⟩ := All2.orV (.cons h3 h4 t) (by simp)
    simp only [orE]
    exact ⟨e_or h1 a, w_or h2 b⟩
theorem All2.tests {es : List Ex} {xs : List Expr} (h : All2 sm X xr Wx es xs) (n : es.length ≤ 1) : PTs X xs (tT X.K xr Wx fun ρ => cndE sm es ρ) := by
  cases h with
  | nil =>
    have h := pts_nil (X := X)
    refine ⟨fun pins s σ H Q I q => h.run pins s σ H Q I ?_⟩
    obtain ⟨μ, ρ, S, z, hs, hr, hm, fi⟩ := q
    simp only [cndE] at hm
    cases hm
    exact fi _ _ _ (Stp.refl hs) hs rfl
  | cons h1 h2 t =>
    cases t with
    | cons _ _ _ => simp at n
    | nil =>
      have h := pts_one h2
      refine ⟨fun pins s σ H Q I q => h.run pins s σ H Q I ?_⟩
      obtain ⟨μ, ρ, S, z, hs, hr, hm, fi⟩ := q
      refine ⟨μ, ρ, S, z, hs, hr, ?_, fi⟩
      simp only [cndE, if_re, bnd_re'] at hm
      exact hm
end
section
variable {Γ : Cfg} {X : Cx} {Wx : WX}
theorem src_ok (g : Gd T sm xr k Γ X Wx) {tg iter : Expr} {kk : SK} {ys : List Expr} {src : List Ex} (h : srcArgs Γ tg kk iter = some ys) (a : All2 sm X xr Wx src ys) : PI X tg iter (tI X.K xr Wx kk (evEs sm src)) := by
  cases kk with
  | seq =>
    simp only [srcArgs, Option.some.injEq] at h
    subst h
    cases a with
    | cons h1 h2 t =>
      cases t
      have := i_seq (tg := tg) h1
      simpa only [evEs, one] using this
  | rng1 =>
    simp only [srcArgs] at h
    split at h
    · rw [ite_some_none_eq_some] at h
      obtain ⟨c, rfl⟩ := h
      simp only [Bool.and_eq_true, decide_eq_true_eq] at c
      obtain ⟨⟨rfl, c2⟩, c3⟩ := c
      exact i_rng1 (g.gl c2) (g.blt _ (by decide +kernel)) (a.args (by simp [c3])) c3
    · cases h
  | rng2 =>
    simp only [srcArgs] at h
    split at h
    · rw [ite_some_none_eq_some] at h
      obtain ⟨c, rfl⟩ := h
      simp only [Bool.and_eq_true, decide_eq_true_eq] at c
      obtain ⟨⟨⟨rfl, c2⟩, c3⟩, c4⟩ := c
      exact i_rng2 (g.gl c2) (g.blt _ (by decide +kernel)) (a.args (by simp [c3, c4])) c3 c4
    · cases h
  | enum =>
    simp only [srcArgs] at h
    split at h
    · rw [ite_some_none_eq_some] at h
      obtain ⟨c, rfl⟩ := h
      simp only [Bool.and_eq_true, decide_eq_true_eq] at c
      obtain ⟨⟨rfl, c2⟩, c3⟩ := c
      exact i_enum (g.gl c2) (g.blt _ (by decide +kernel)) (a.args (by simp [c3])) c3
    · cases h
  | zip =>
    simp only [srcArgs] at h
    split at h
    · rw [ite_some_none_eq_some] at h
      obtain ⟨c, rfl⟩ := h
      simp only [Bool.and_eq_true, decide_eq_true_eq] at c
      obtain ⟨⟨⟨rfl, c2⟩, c3⟩, c4⟩ := c
      exact i_zip (g.gl c2) (g.blt _ (by decide +kernel)) (a.args (by simp [c3, c4])) c3 c4
    · cases h
theorem both {x : Expr} {m : Env' → Mo W} (h : EE X xr Wx x m) (p : plT x = true) : EE X xr Wx x m ∧ ET X xr Wx x m := ⟨h, truthT h p⟩
theorem e_glo (g : Gd T sm xr k Γ X Wx) {n : Nat} {pos : Pos} (h1 : glB Γ (T.gname n) = true) (h2 : okN (T.gname n) = true) : EE X xr Wx (.Name (T.gname n) pos) (evE sm (.glo n)) := by
  simp only [evE]
  cases e : sm.glob n with
  | none =>
    refine ⟨fun pins s σ H Q I q => ?_⟩
    obtain ⟨μ, ρ, S, z, hs, hr, hm, fi⟩ := q
    cases hm
  | some d =>
    obtain ⟨u, v, h3, h4, h5⟩ := g.glob n d e
    exact e_con (pe_glob (g.gl h1) h3 h4 (okN_ok h2).1) h5
theorem blkOk_ok {scope : Scope} {own : List (Str × Nat)} (g : Gd T sm xr k Γ X Wx) (h : blkC Γ.N Γ.sc scope own = true) : BlkOk X.N X.env.scope scope own := by
  rw [g.N, g.sc]
  exact blkOk_by h
end
def SN (T : Tb) (sm : Sm) (xr : XRel) (k : Nat) (e : Ex) : Prop := ∀ (Γ : Cfg) (X : Cx) (Wx : WX) (x : Expr), Gd T sm xr k Γ X Wx → chkE T e Γ x = true → EE X xr Wx x (evE sm e) ∧ ET X xr Wx x (evE sm e)
def SL (T : Tb) (sm : Sm) (xr : XRel) (k : Nat) (es : List Ex) : Prop := ∀ (Γ : Cfg) (X : Cx) (Wx : WX) (xs : List Expr), Gd T sm xr k Γ X Wx → chkEs T es Γ xs = true → All2 sm X xr Wx es xs
theorem sl_nil : SL T sm xr k [] := by
  intro Γ X Wx xs g h
  unfold chkEs at h
  cases xs with
  | nil => exact .nil
  | cons => cases h
theorem sl_cons {e : Ex} {es : List Ex} (i_e : SN T sm xr k e) (i_es : SL T sm xr k es) : SL T sm xr k (e :: es) := by
  intro Γ X Wx xs g h
  unfold chkEs at h
  cases xs with
  | nil => cases h
  | cons x xs =>
    simp only [Bool.and_eq_true] at h
    obtain ⟨p, q⟩ := i_e Γ X Wx x g h.1
    exact .cons p q (i_es Γ X Wx xs g h.2)
theorem sn_var {i : Nat} : SN T sm xr k (.var i) := by
  intro Γ X Wx x g h
  unfold chkE at h
  split at h
  · simp only [Bool.and_eq_true, decide_eq_true_eq] at h
    simp only [evE]
    exact both (e_var (g.n h.1.1) (g.vis h.1.2) (okN_ok h.2).1 (okN_ok h.2).2.1) rfl
  · cases h
theorem sn_cI {i : Int} : SN T sm xr k (.cI i) := by
  intro Γ X Wx x g h
  unfold chkE at h
  split at h
  · simp only [decide_eq_true_eq] at h
    subst h
    simp only [evE]
    exact both (e_con pe_int fun μ H _ => .int _) rfl
  · cases h
theorem sn_cB {i : Bool} : SN T sm xr k (.cB i) := by
  intro Γ X Wx x g h
  unfold chkE at h
  split at h
  · simp only [decide_eq_true_eq] at h
    subst h
    simp only [evE]
    exact both (e_con pe_bl fun μ H _ => .bl _) rfl
  · cases h
theorem sn_cN : SN T sm xr k (.cN) := by
  intro Γ X Wx x g h
  unfold chkE at h
  split at h
  · simp only [evE]
    exact both (e_con pe_non fun μ H _ => .non) rfl
  · cases h
theorem sn_cS {i : Str} : SN T sm xr k (.cS i) := by
  intro Γ X Wx x g h
  unfold chkE at h
  split at h
  · simp only [decide_eq_true_eq] at h
    subst h
    simp only [evE]
    exact both (e_con pe_str fun μ H _ => .str _) rfl
  · cases h
theorem sn_glo {n : Nat} : SN T sm xr k (.glo n) := by
  intro Γ X Wx x g h
  unfold chkE at h
  split at h
  · simp only [Bool.and_eq_true, decide_eq_true_eq] at h
    obtain ⟨⟨rfl, h2⟩, h3⟩ := h
    exact both (e_glo g h2 h3) rfl
  · cases h
theorem sn_bin {o : O2} {a : Ex} {b : Ex} (i_a : SN T sm xr k a) (i_b : SN T sm xr k b) : SN T sm xr k (.bin o a b) := by
  intro Γ X Wx x g h
  unfold chkE at h
  split at h
  · simp only [Bool.and_eq_true, decide_eq_true_eq] at h
    obtain ⟨⟨rfl, h2⟩, h3⟩ := h
    simp only [evE]
    exact both (e_bin o (i_a Γ X Wx _ g h2).1 (i_b Γ X Wx _ g h3).1) rfl
  · cases h
theorem sn_neg {a : Ex} (i_a : SN T sm xr k a) : SN T sm xr k (.neg a) := by
  intro Γ X Wx x g h
  unfold chkE at h
  split at h
  · simp only [evE]
    exact both (e_neg (i_a Γ X Wx _ g h).1) rfl
  · cases h
theorem sn_cmp {o : C2} {a : Ex} {b : Ex} (i_a : SN T sm xr k a) (i_b : SN T sm xr k b) : SN T sm xr k (.cmp o a b) := by
  intro Γ X Wx x g h
  unfold chkE at h
  split at h
  · simp only [Bool.and_eq_true, decide_eq_true_eq] at h
    obtain ⟨⟨⟨rfl, h1⟩, h2⟩, h3⟩ := h
    simp only [evE]
    exact ⟨e_cmp o g.un h1 (i_a Γ X Wx _ g h2).1 (i_b Γ X Wx _ g h3).1, t_cmp o g.un h1 (i_a Γ X Wx _ g h2).1 (i_b Γ X Wx _ g h3).1⟩
  · cases h
theorem sn_chn {o : C2} {o' : C2} {a : Ex} {b : Ex} {c : Ex} (i_a : SN T sm xr k a) (i_b : SN T sm xr k b) (i_c : SN T sm xr k c) : SN T sm xr k (.chn o o' a b c) := by
  intro Γ X Wx x g h
  unfold chkE at h
  split at h
  · simp only [Bool.and_eq_true, decide_eq_true_eq] at h
    obtain ⟨⟨⟨⟨⟨rfl, rfl⟩, h1⟩, h2⟩, h3⟩, h4⟩ := h
    simp only [evE]
    exact e_chn o o' g.un h1 (i_a Γ X Wx _ g h2).1 (i_b Γ X Wx _ g h3).1 (i_c Γ X Wx _ g h4).1
  · cases h
theorem sn_and {es : List Ex} (i_es : SL T sm xr k es) : SN T sm xr k (.and es) := by
  intro Γ X Wx x g h
  unfold chkE at h
  split at h
  · simp only [Bool.and_eq_true] at h
    obtain ⟨p, q⟩ := (i_es Γ X Wx _ g h.2).andV (by intro e; rw [e] at h; simp at h)
    simp only [evE]
    exact ⟨p, q.pt⟩
  · cases h
theorem sn_or {es : List Ex} (i_es : SL T sm xr k es) : SN T sm xr k (.or es) := by
  intro Γ X Wx x g h
  unfold chkE at h
  split at h
  · simp only [Bool.and_eq_true] at h
    obtain ⟨p, q⟩ := (i_es Γ X Wx _ g h.2).orV (by intro e; rw [e] at h; simp at h)
    simp only [evE]
    exact ⟨p, q.pt⟩
  · cases h
theorem sn_not {a : Ex} (i_a : SN T sm xr k a) : SN T sm xr k (.not a) := by
  intro Γ X Wx x g h
  unfold chkE at h
  split at h
  · simp only [evE]
    exact ⟨e_not (i_a Γ X Wx _ g h).1, t_not (i_a Γ X Wx _ g h).2⟩
  · cases h
theorem sn_ite {t : Ex} {a : Ex} {b : Ex} (i_t : SN T sm xr k t) (i_a : SN T sm xr k a) (i_b : SN T sm xr k b) : SN T sm xr k (.ite t a b) := by
  intro Γ X Wx x g h
  unfold chkE at h
  split at h
  · simp only [Bool.and_eq_true] at h
    simp only [evE]
    exact ⟨e_ite (i_t Γ X Wx _ g h.1.1).2 (i_a Γ X Wx _ g h.1.2).1 (i_b Γ X Wx _ g h.2).1, t_ite (i_t Γ X Wx _ g h.1.1).2 (i_a Γ X Wx _ g h.1.2).2 (i_b Γ X Wx _ g h.2).2⟩
  · cases h
theorem sn_tup {es : List Ex} (i_es : SL T sm xr k es) : SN T sm xr k (.tup es) := by
  intro Γ X Wx x g h
  unfold chkE at h
  split at h
  · simp only [Bool.and_eq_true] at h
    simp only [evE]
    exact both (e_tup ((i_es Γ X Wx _ g h.2).args h.1)) rfl
  · cases h
theorem sn_lst {es : List Ex} (i_es : SL T sm xr k es) : SN T sm xr k (.lst es) := by
  intro Γ X Wx x g h
  unfold chkE at h
  split at h
  · simp only [Bool.and_eq_true] at h
    simp only [evE]
    exact both (e_lst ((i_es Γ X Wx _ g h.2).args h.1)) rfl
  · cases h
theorem sn_lstL {es : List Ex} (i_es : SL T sm xr k es) : SN T sm xr k (.lstL es) := by
  intro Γ X Wx x g h
  unfold chkE at h
  split at h
  · simp only [Bool.and_eq_true] at h
    simp only [evE]
    exact both (e_lstL ((i_es Γ X Wx _ g h.2).args h.1)) rfl
  · cases h
theorem sn_idx {a : Ex} {i : Ex} (i_a : SN T sm xr k a) (i_i : SN T sm xr k i) : SN T sm xr k (.idx a i) := by
  intro Γ X Wx x g h
  unfold chkE at h
  split at h
  · simp only [Bool.and_eq_true] at h
    simp only [evE]
    exact both (e_idx h.1.1 (i_a Γ X Wx _ g h.1.2).1 (i_i Γ X Wx _ g h.2).1) rfl
  · cases h
theorem sn_slc {a : Ex} {f : Bool} {lo : Ex} {f2 : Bool} {hi : Ex} (i_a : SN T sm xr k a) (i_lo : SN T sm xr k lo) (i_hi : SN T sm xr k hi) : SN T sm xr k (.slc a f lo f2 hi) := by
  intro Γ X Wx x g h
  unfold chkE at h
  split at h
  · rename_i l lo' hi' p1 p2
    simp only [Bool.and_eq_true] at h
    obtain ⟨⟨h1, h2⟩, h3⟩ := h
    simp only [evE]
    have e1 : ∃ b, lo' = poOf f b ∧ (f = true → EE X xr Wx b (evE sm lo)) := by
      split at h2
      · exact ⟨_, rfl, fun _ => (i_lo Γ X Wx _ g h2).1⟩
      · exact ⟨.Constant .none 0 p1, rfl, fun z => by cases z⟩
      · cases h2
    have e2 : ∃ b, hi' = poOf f2 b ∧ (f2 = true → EE X xr Wx b (evE sm hi)) := by
      split at h3
      · exact ⟨_, rfl, fun _ => (i_hi Γ X Wx _ g h3).1⟩
      · exact ⟨.Constant .none 0 p1, rfl, fun z => by cases z⟩
      · cases h3
    obtain ⟨b1, rfl, q1⟩ := e1
    obtain ⟨b2, rfl, q2⟩ := e2
    exact both (e_slc f f2 (i_a Γ X Wx _ g h1).1 q1 q2) rfl
  · cases h
theorem sn_isi {Ty : String} {a : Ex} (i_a : SN T sm xr k a) : SN T sm xr k (.isi Ty a) := by
  intro Γ X Wx x g h
  unfold chkE at h
  split at h
  · simp only [Bool.and_eq_true, decide_eq_true_eq] at h
    obtain ⟨⟨⟨⟨⟨⟨⟨rfl, rfl⟩, h1⟩, h2⟩, h3⟩, h4⟩, h5⟩, h6⟩ := h
    simp only [evE]
    exact both (e_isi h1 g.blt (g.gl h2) (g.gl h3) h5 h4 (i_a Γ X Wx _ g h6).1) rfl
  · cases h
theorem sn_blt {b : B1} {es : List Ex} (i_es : SL T sm xr k es) : SN T sm xr k (.blt b es) := by
  intro Γ X Wx x g h
  unfold chkE at h
  split at h
  · simp only [Bool.and_eq_true, Bool.or_eq_true, decide_eq_true_eq] at h
    obtain ⟨⟨⟨⟨⟨⟨hcm, rfl⟩, h1⟩, h2⟩, h3⟩, h4⟩, h5⟩ := h
    simp only [evE]
    refine both (e_blt b (g.calm hcm) h3 h4 ?_ (g.gl h1) ((i_es Γ X Wx _ g h5).args (by simp [h3, h4]))) rfl
    rcases h2 with q | q
    · exact .inl ⟨by simpa using q, g.blt⟩
    · by_cases e : isMath b = true
      · exact .inr ⟨e, g.math b q e⟩
      · exact .inl ⟨by simpa using e, g.blt⟩
  · cases h
theorem sn_rpr {a : Ex} (i_a : SN T sm xr k a) : SN T sm xr k (.rpr a) := by
  intro Γ X Wx x g h
  unfold chkE at h
  split at h
  · simp only [Bool.and_eq_true, decide_eq_true_eq] at h
    obtain ⟨⟨⟨rfl, h1⟩, h2⟩, h3⟩ := h
    simp only [evE]
    exact both (e_rpr g.sys g.grd g.un g.blt (g.gl h1) h2 (i_a Γ X Wx _ g h3).1) rfl
  · cases h
theorem sn_call {f : Nat} {es : List Ex} (i_es : SL T sm xr k es) : SN T sm xr k (.call f es) := by
  intro Γ X Wx x g h
  unfold chkE at h
  split at h
  · simp only [Bool.and_eq_true, decide_eq_true_eq] at h
    obtain ⟨⟨⟨⟨⟨⟨⟨hcm, h1⟩, rfl⟩, h2⟩, h3⟩, h4⟩, h5⟩, h6⟩ := h
    simp only [evE]
    exact both (e_call g hcm h1 h2 h3 h4 h5 ((i_es Γ X Wx _ g h6).args (by simp [h4, h5]))) rfl
  · cases h
theorem sn_callK {f : Nat} {m : Nat} {perm : List Nat} {es : List Ex} (i_es : SL T sm xr k es) : SN T sm xr k (.callK f m perm es) := by
  intro Γ X Wx x g h
  unfold chkE at h
  split at h
  · rename_i n p1 ys kws p2
    simp only [Bool.and_eq_true, decide_eq_true_eq] at h
    obtain ⟨⟨⟨⟨⟨⟨⟨⟨⟨⟨hcm, h1⟩, rfl⟩, h2⟩, h3⟩, h4⟩, h5⟩, h6⟩, h7⟩, h8⟩, h9⟩ := h
    have a := i_es Γ X Wx _ g h9
    obtain ⟨es1, es2, rfl, a1, a2⟩ := a.split
    simp only [evE, evEs_app, bnd_assocF]
    have l2 : ∀ ρ S ws S', evEs sm es2 ρ S = some (.ok ws S') → ws.length = (kwn kws).length := fun ρ S ws S' e => by rw [evEs_len _ _ _ _ _ e, a2.len, h8]
    subst h7
    cases ys with
    | nil =>
      cases a1
      simp only [evEs]
      exact both (e_callK0 g hcm h1 h2 h3 h5 h6 a2.kws l2) rfl
    | cons y ys =>
      have l1 : ∀ ρ S ws S', evEs sm es1 ρ S = some (.ok ws S') → ws.length = (y :: ys).length := fun ρ S ws S' e => by rw [evEs_len _ _ _ _ _ e, a1.len]
      have h4' := h4
      rw [List.all_cons, Bool.and_eq_true] at h4
      exact both (e_callK g hcm h1 h2 h3 h5 h6 h4.1 h4.2 (a1.args h4') a2.kws l1 l2) rfl
  · cases h
theorem sn_cmpr {kk : SK} {src : List Ex} {p : Pat} {cs : List Ex} {e : Ex} {own : List Nat} (i_src : SL T sm xr k src) (i_cs : SL T sm xr k cs) (i_e : SN T sm xr k e) : SN T sm xr k (.cmpr kk src p cs e own) := by
  intro Γ X Wx x g h
  unfold chkE at h
  split at h
  · rename_i elt tg iter ifs scope p1
    simp only [Bool.and_eq_true, decide_eq_true_eq, List.all_eq_true] at h
    obtain ⟨⟨⟨⟨⟨⟨⟨⟨⟨hcm, h1⟩, h2⟩, h3⟩, h4⟩, h5⟩, h6⟩, h7⟩, h8⟩, h9⟩ := h
    have hi : PI X tg iter (tI X.K xr Wx kk (evEs sm src)) := by
      split at h6
      · exact src_ok g (by assumption) (i_src Γ X Wx _ g h6)
      · cases h6
    have := e_cmpr (q := p) g hcm hi (blkOk_ok g h2) h3 h4 h1 (fun s H C cl fp => sndP (g.blk hcm scope s H C cl fp) p tg h7) (fun s H C cl fp => (i_cs _ _ _ _ (g.blk hcm scope s H C cl fp) h8).tests h5) (fun s H C cl fp => (i_e _ _ _ _ (g.blk hcm scope s H C cl fp) h9).1) (pos := p1)
    simp only [evE]
    exact both this rfl
  · cases h
theorem sn_dct0 : SN T sm xr k .dct0 := by
  intro Γ X Wx x g h
  unfold chkE at h
  split at h
  · simp only [evE]
    exact both e_dct0 rfl
  · cases h
theorem sn_isE {i c : Nat} : SN T sm xr k (.isE i c) := by
  intro Γ X Wx x g h
  unfold chkE at h
  split at h
  · simp only [Bool.and_eq_true, decide_eq_true_eq] at h
    obtain ⟨⟨⟨⟨⟨⟨⟨⟨rfl, h1⟩, h2⟩, h3⟩, h4⟩, h5⟩, h6⟩, h7⟩, h8⟩ := h
    simp only [evE]
    exact both (e_isE g g.blt h1 h2 h3 h4 h5 h6 h7 h8) rfl
  · cases h
theorem sn_fld {i : Nat} : SN T sm xr k (.fld i) := by
  intro Γ X Wx x g h
  unfold chkE at h
  split at h
  · simp only [Bool.and_eq_true, decide_eq_true_eq] at h
    obtain ⟨⟨⟨rfl, h2⟩, h3⟩, h4⟩ := h
    simp only [evE]
    exact both (e_fld g h2 h3 h4) rfl
  · cases h
theorem sn_mcnt {a b : Ex} (i_a : SN T sm xr k a) (i_b : SN T sm xr k b) : SN T sm xr k (.mcnt a b) := by
  intro Γ X Wx x g h
  unfold chkE at h
  split at h
  · simp only [Bool.and_eq_true, decide_eq_true_eq] at h
    obtain ⟨⟨⟨⟨rfl, h2⟩, h3⟩, h4⟩, h5⟩ := h
    simp only [evE]
    exact both (e_mcnt (by rfl) h2 h3 (i_a Γ X Wx _ g h4).1 (i_b Γ X Wx _ g h5).1) rfl
  · cases h
theorem sn_mix {a b : Ex} (i_a : SN T sm xr k a) (i_b : SN T sm xr k b) : SN T sm xr k (.mix a b) := by
  intro Γ X Wx x g h
  unfold chkE at h
  split at h
  · simp only [Bool.and_eq_true, decide_eq_true_eq] at h
    obtain ⟨⟨⟨⟨rfl, h2⟩, h3⟩, h4⟩, h5⟩ := h
    simp only [evE]
    exact both (e_mix (by rfl) h2 h3 (i_a Γ X Wx _ g h4).1 (i_b Γ X Wx _ g h5).1) rfl
  · cases h
end DL

namespace DL
open PySem PySem.Spec PyProof.Rows L2
variable {T : Tb} {sm : Sm} {xr : XRel} {k : Nat}
mutual
theorem snd : ∀ (e : Ex), SN T sm xr k e
  | .var _ => sn_var
  | .cI _ => sn_cI
  | .cB _ => sn_cB
  | .cN => sn_cN
  | .cS _ => sn_cS
  | .glo _ => sn_glo
  | .bin _ a b => sn_bin (snd a) (snd b)
  | .neg a => sn_neg (snd a)
  | .cmp _ a b => sn_cmp (snd a) (snd b)
  | .chn _ _ a b c => sn_chn (snd a) (snd b) (snd c)
  | .and es => sn_and (sndL es)
  | .or es => sn_or (sndL es)
  | .not a => sn_not (snd a)
  | .ite t a b => sn_ite (snd t) (snd a) (snd b)
  | .tup es => sn_tup (sndL es)
  | .lst es => sn_lst (sndL es)
  | .lstL es => sn_lstL (sndL es)
  | .idx a i => sn_idx (snd a) (snd i)
  | .slc a _ lo _ hi => sn_slc (snd a) (snd lo) (snd hi)
  | .isi _ a => sn_isi (snd a)
  | .blt _ es => sn_blt (sndL es)
  | .rpr a => sn_rpr (snd a)
  | .call _ es => sn_call (sndL es)
  | .callK _ _ _ es => sn_callK (sndL es)
  | .cmpr _ src _ cs e _ => sn_cmpr (sndL src) (sndL cs) (snd e)
  | .dct0 => sn_dct0
  | .isE _ _ => sn_isE
  | .fld _ => sn_fld
  | .mcnt a b => sn_mcnt (snd a) (snd b)
  | .mix a b => sn_mix (snd a) (snd b)
theorem sndL : ∀ (es : List Ex), SL T sm xr k es
  | [] => sl_nil
  | e :: es => sl_cons (snd e) (sndL es)
end
end DL

namespace DL
open PySem PySem.Spec PyProof.Rows L2

inductive Sx where
  | set (i : Nat) (e : Ex)
  | setC (i : Nat) (e : Ex)
  | asgn (p : Pat) (e : Ex)
  | par (is : List Nat) (es : List Ex)
  | exp (e : Ex)
  | doc
  | app (i : Nat) (e : Ex)
  | iff (t : Ex) (a b : List Sx)
  | iffT (t : Ex) (a b : List Sx)
  | whl (t : Ex) (b : List Sx)
  | fors (p : Pat) (k : SK) (src : List Ex) (b : List Sx)
  | ret (e : Ex)
  | retL (e : Ex)
  | pass
  | brk
  | cnt
  | never
  | rse (k : Nat) (e : Ex)
  | rse0 (k : Nat)
  | tryE (e : Ex) (c i : Nat) (su : List Sx)
inductive Fl where
  | nx (ρ : Env')
  | rt (w : W)
  | rl (j : Nat)
  | bk (ρ : Env')
  | ct (ρ : Env')
def setAll (ρ : Env') : List Nat → List W → Option Env'
  | [], [] => some ρ
  | i :: is, w :: ws => setAll (ρ.set i (some w)) is ws
  | _, _ => none
def clrF (i : Nat) : Fl → Fl
  | .nx ρ => .nx (ρ.set i none)
  | .bk ρ => .bk (ρ.set i none)
  | .ct ρ => .ct (ρ.set i none)
  | .rt w => .rt w
  | .rl j => .rl j
open Classical in
noncomputable def tryM (f : Addr → Addr → Mo Fl) : Mo Fl := fun S => if h : ∃ r, ∀ a d, f a d S = some r then some h.choose else none
theorem tryM_ok {f : Addr → Addr → Mo Fl} {S : Sto} {r : Out Fl} (h : tryM f S = some r) : ∀ a d, f a d S = some r := by
  classical
  unfold tryM at h
  split at h
  · rename_i hh
    cases h
    exact hh.choose_spec
  · cases h
theorem tryM_eq {f : Addr → Addr → Mo Fl} {S : Sto} {r : Out Fl} (h : ∀ a d, f a d S = some r) : tryM f S = some r := by
  classical
  have hh : ∃ r, ∀ a d, f a d S = some r := ⟨r, h⟩
  unfold tryM
  rw [dif_pos hh]
  have e := hh.choose_spec 0 0
  rw [h 0 0] at e
  exact e.symm
def FU : Nat := 2 ^ 40
def whE (c : Env' → Mo Bool) (b : Env' → Mo Fl) : Nat → Env' → Mo Fl
  | 0, _ => no
  | n + 1, ρ => bnd (c ρ) fun k => if k = true then bnd (b ρ) (fun f => match f with
    | .nx ρ' => whE c b n ρ'
    | .ct ρ' => whE c b n ρ'
    | .bk ρ' => re (.nx ρ')
    | .rt w => re (.rt w)
    | .rl w => re (.rl w)) else re (.nx ρ)
noncomputable def forE (a : PyData → Env' → Mo Env') (b : Env' → Mo Fl) (S0 : Sto) (g : List Nat) : List PyData → Env' → Mo Fl
  | [], ρ => staying S0 g (re (.nx ρ))
  | x :: xs, ρ => staying S0 g (bnd (a x ρ) fun ρ' => bnd (b ρ') (fun f => match f with
    | .nx ρ'' => forE a b S0 g xs ρ''
    | .ct ρ'' => forE a b S0 g xs ρ''
    | .bk ρ'' => re (.nx ρ'')
    | .rt w => re (.rt w)
    | .rl w => re (.rl w)))
mutual
noncomputable def exS (Γ : Sm) : Sx → Env' → Mo Fl
  | .set i e, ρ => bnd (evE Γ e ρ) fun w => re (.nx (ρ.set i (some w)))
  | .setC i e, ρ => bnd (evE Γ e ρ) fun w => re (.nx (ρ.set i (some w)))
  | .asgn p e, ρ => bnd (evE Γ e ρ) fun w => bnd (onD w) fun d => bnd (asg p d ρ) fun ρ' => re (.nx ρ')
  | .par is es, ρ => bnd (evEs Γ es ρ) fun ws => bnd (lift (setAll ρ is ws)) fun ρ' => re (.nx ρ')
  | .exp e, ρ => bnd (evE Γ e ρ) fun _ => re (.nx ρ)
  | .doc, ρ => re (.nx ρ)
  | .app i e, ρ => bnd (lift (match ρ[i]? with
      | some (some (.l j)) => some j
      | _ => none)) fun j => bnd (evE Γ e ρ) fun w => bnd (onD w) fun d => fun S => match S[j]? with
    | some xs => if xs.length < LIM then some (.ok (.nx ρ) (S.set j (xs ++ [d]))) else none
    | none => none
  | .iff t a b, ρ => bnd (evE Γ t ρ) fun x => bnd (truthB x) fun k => if k = true then exSs Γ a ρ else exSs Γ b ρ
  | .iffT t a b, ρ => fun S => (bnd (bnd (evE Γ t ρ) truthB) fun k => fun S' => (if k = true then exSs Γ a ρ else exSs Γ b ρ) (S'.take S.length)) S
  | .whl t b, ρ => whE (fun ρ => bnd (evE Γ t ρ) truthB) (fun ρ => exSs Γ b ρ) FU ρ
  | .fors p k src b, ρ => bnd (evEs Γ src ρ) fun ws => fun S => match itemsOf k ws S with
    | some (xs, g) => if xs.length ≤ LIM then forE (asg p) (fun ρ => exSs Γ b ρ) S g xs ρ S else none
    | none => none
  | .ret e, ρ => bnd (evE Γ e ρ) fun w => re (.rt w)
  | .retL e, ρ => bnd (evE Γ e ρ) fun w => match w with
    | .l j => re (.rl j)
    | _ => no
  | .pass, ρ => re (.nx ρ)
  | .brk, ρ => re (.bk ρ)
  | .cnt, ρ => re (.ct ρ)
  | .never, _ => no
  | .rse k e, ρ => bnd (evE Γ e ρ) fun w => bnd (onD w) fun d => fun S => some (.exc k d S)
  | .rse0 k, _ => fun S => some (.exc k .none S)
  | .tryE e c i su, ρ => fun S => match evE Γ e ρ S with
    | some (.ok _ S') => some (.ok (.nx ρ) S')
    | some (.exc k p S') => if isx k c = true then tryM (fun a d => bnd (noexc (exSs { Γ with exc := some (a, if Γ.hasI k = true then some d else none, k) } su (ρ.set i (some (.x a (if Γ.hasI k = true then some (d, p) else none)))))) fun f => re (clrF i f)) S' else some (.exc k p S')
    | none => none
noncomputable def exSs (Γ : Sm) : List Sx → Env' → Mo Fl
  | [], ρ => re (.nx ρ)
  | s :: ss, ρ => bnd (exS Γ s ρ) fun f => match f with
    | .nx ρ' => exSs Γ ss ρ'
    | .bk ρ' => re (.bk ρ')
    | .ct ρ' => re (.ct ρ')
    | .rt w => re (.rt w)
    | .rl w => re (.rl w)
end

section
variable {K : PySem.W.Frag} {μ μ' : Mu} {H H' : Hp} {S S' : Sto}
theorem trunc (hs : RS K μ S H) (st : Stp μ H μ' H') (rs : RS K μ' S' H') : Stp μ H μ H' ∧ RS K μ (S'.take S.length) H' ∧ Gen K μ' H' μ H' := by
  obtain ⟨t, et⟩ := st.pre
  have g : Gen K μ' H' μ H' := gen_less fun a h => by
    rcases h with q | q
    · exact .inl (by rw [et]; exact List.mem_append_left _ q)
    · exact .inr (st.hsub a q)
  have hl : S.length ≤ S'.length := by
    have := rs.len
    rw [et, List.length_append, hs.len] at this
    omega
  refine ⟨⟨⟨[], by simp⟩, st.keep, fun _ h => .inl h, st.old, fun _ h => .inl h, fun _ h => h⟩, ⟨?_, hs.nd, fun j a xs e1 e2 => ?_, fun a ha => ?_⟩, g⟩
  · rw [List.length_take, hs.len]; omega
  · have hj : j < S.length := by rw [← hs.len]; exact (List.getElem?_eq_some_iff.mp e1).1
    rw [List.getElem?_take_of_lt hj] at e2
    obtain ⟨vs, a1, a2⟩ := rs.at_ j a xs (by rw [et, List.getElem?_append_left (List.getElem?_eq_some_iff.mp e1).1]; exact e1) e2
    exact ⟨vs, a1, RDs.gen g _ _ a2⟩
  · obtain ⟨h1, h2⟩ := rs.hid a (st.hsub a ha)
    exact ⟨fun z => h1 (by rw [et]; exact List.mem_append_left _ z), h2⟩
end
theorem exS_ne (Γ : Sm) (k : Nat) (e : Ex) (ρ : Env') : exS Γ (.rse k e) ρ = bnd (evE Γ e ρ) fun w => bnd (onD w) fun d => fun S => some (.exc k d S) := by rw [exS]
def FiF (K : PySem.W.Frag) (μ : Mu) (H : Hp) (S' : Sto) (D : Ends) : Fl → Prop
  | .nx ρ' => ∀ μ' H' σ', Stp μ H μ' H' → RS K μ' S' H' → RE K μ' H' ρ' σ' → D.nx σ' H'
  | .bk ρ' => ∀ μ' H' σ', Stp μ H μ' H' → RS K μ' S' H' → RE K μ' H' ρ' σ' → D.bk σ' H'
  | .ct ρ' => ∀ μ' H' σ', Stp μ H μ' H' → RS K μ' S' H' → RE K μ' H' ρ' σ' → D.ct σ' H'
  | .rt w => ∀ μ' H' v, Stp μ H μ' H' → RS K μ' S' H' → RW K μ' H' w v → D.rt v H'
  | .rl j => ∀ μ' H' v, Stp μ H μ' H' → RS K μ' S' H' → RW K μ' H' (.l j) v → D.rt v H'
def FiS (K : PySem.W.Frag) (xr : XRel) (Wx : WX) (μ : Mu) (H : Hp) (D : Ends) : Out Fl → Prop
  | .ok f S' => FiF K μ H S' D f
  | .exc k a S' => ∀ μ' H' c d σ', Stp μ H μ' H' → RS K μ' S' H' → xr k a μ' H' c d → Wx c d σ' H'
def tS (K : PySem.W.Frag) (xr : XRel) (Wx : WX) (m : Env' → Mo Fl) : TS := fun D σ H => ∃ μ ρ S r, RS K μ S H ∧ RE K μ H ρ σ ∧ m ρ S = some r ∧ FiS K xr Wx μ H D r
section
variable {K : PySem.W.Frag} {xr : XRel} {Wx : WX} {μ μ' : Mu} {H H' : Hp} {S S' : Sto} {D : Ends}
theorem FiF.stp {f : Fl} (s : Stp μ H μ' H') (h : FiF K μ H S' D f) : FiF K μ' H' S' D f := by
  cases f <;> exact fun a b c s2 => h a b c (s.trans s2)
theorem FiS.stp {r : Out Fl} (s : Stp μ H μ' H') (h : FiS K xr Wx μ H D r) : FiS K xr Wx μ' H' D r := by
  cases r with
  | ok f S' => exact FiF.stp s h
  | exc k a S' => exact fun a b c d e s2 => h a b c d e (s.trans s2)
theorem sqS {α β : Type} {R : Mu → Hp → α → β → Prop} {σ : L2.St} {ρ : Env'} {m : Env' → Mo α} {f : α → Mo Fl} {r : Out Fl} (hs : RS K μ S H) (he : RE K μ H ρ σ) (h : bnd (m ρ) f S = some r) (fi : FiS K xr Wx μ H D r) {Z : β → Hp → Prop}
    (k : ∀ μ1 S1 H1 x y, Stp μ H μ1 H1 → RS K μ1 S1 H1 → RE K μ1 H1 ρ σ → R μ1 H1 x y → f x S1 = some r → FiS K xr Wx μ1 H1 D r → Z y H1) : tG K xr Wx R m σ H Z := by
  rcases bnd_inv h with ⟨kk, a, S1, e, rfl⟩ | ⟨x, S1, e, h1⟩
  · exact ⟨μ, ρ, S, _, hs, he, e, fun μ' H' c d st rs xx => fi μ' H' c d σ st rs xx⟩
  · exact ⟨μ, ρ, S, _, hs, he, e, fun μ' H' y st rs rr => k μ' S1 H' x y st rs (he.stp st) rr h1 (fi.stp st)⟩
end
section
variable {X : Cx} {xr : XRel} {Wx : WX} {pos p p2 : Pos} {a b c e tg : Expr} {es : List Expr} {sts : List Stmt} {st : Stmt} {ma mb mc m : Env' → Mo W} {ms : Env' → Mo (List W)} {mf mg : Env' → Mo Fl} {i j : Nat} {x y : Str} {T : Tb} {sm : Sm} {k : Nat} {Γ : Cfg}
abbrev ES (X : Cx) (xr : XRel) (Wx : WX) (st : Stmt) (m : Env' → Mo Fl) : Prop := PS X st (tS X.K xr Wx m)
abbrev ESs (X : Cx) (xr : XRel) (Wx : WX) (st : List Stmt) (m : Env' → Mo Fl) : Prop := PSs X st (tS X.K xr Wx m)
theorem tasg_nm (D : Ends) (σ : L2.St) (H : Hp) (h : tS X.K xr Wx (fun ρ => bnd (m ρ) fun w => re (.nx (ρ.set i (some w)))) D σ H) : tAsg (tE X.K xr Wx m) (gName i) D σ H := by
  obtain ⟨μ, ρ, S, z, hs, hr, hm, fi⟩ := h
  show tE X.K xr Wx m σ H _
  refine sqS hs hr hm fi fun μ1 S1 H1 x v st1 rs1 re1 rw1 h1 fi1 => ?_
  cases h1
  exact fi1 μ1 H1 _ (Stp.refl rs1) rs1 (re1.set rw1)
theorem s_set (g : Gd T sm xr k Γ X Wx) (hi : Γ.N[i]? = some x) (hst : stB Γ x = true) (hsw : swapsWith e (some (.Name x p)) pos.line X.env = pure false) (he : EE X xr Wx e m) : ES X xr Wx (.Assign [.Name x p] e pos) fun ρ => bnd (m ρ) fun w => re (.nx (ρ.set i (some w))) :=
  PSw (ps_set g.xnd (g.n hi) (g.st hst).1 he hsw (g.st hst).2) fun D σ H h => tasg_nm D σ H h
theorem s_asgn {q : Pat} (he : EE X xr Wx e m) (hg : EG X tg q) (hs : swapsWithSole [tg] e pos.line X.env = pure false) (hw : swappedStores [tg] e X.env = pure none) (hn : nst tg = true) :
    ES X xr Wx (.Assign [tg] e pos) fun ρ => bnd (m ρ) fun w => bnd (onD w) fun d => bnd (asg q d ρ) fun ρ' => re (.nx ρ') :=
  PSw (ps_asg he hg hs hw (by rw [asgn_cons hn]; rfl)) fun D σ H h => by
  obtain ⟨μ, ρ, S, z, hs, hr, hm, fi⟩ := h
  show tE X.K xr Wx m σ H _
  refine sqS hs hr hm fi fun μ1 S1 H1 x v st1 rs1 re1 rw1 h1 fi1 => ?_
  obtain ⟨d, rd, h2⟩ := onD_ok rw1 h1
  rcases bnd_inv h2 with ⟨kk, a, S2, e2, _⟩ | ⟨ρ', S2, e2, h3⟩
  · exact absurd e2 (asg_ne _ _ _ _ _ _ _)
  · cases h3
    exact ⟨μ1, ρ, S1, d, ρ', S2, rs1, re1, rd, e2, fun μ2 H2 σ2 st2 rs2 re2 _ => fi1 μ2 H2 σ2 st2 rs2 re2⟩
theorem s_par2 {b2 : Expr} {kt k2 : Nat} {px py pt pt2 : Pos} (g : Gd T sm xr k Γ X Wx) (hcm : Γ.cm = true) (hi : Γ.N[i]? = some x) (hj : Γ.N[j]? = some y) (hij : i ≠ j) (hx : Γ.sc.names.lookup x = some .local) (hy : Γ.sc.names.lookup y = some .local) (ha : EA X xr Wx [a, b2] ms)
    (hw : swappedStores [.Tuple [.Name x px, .Name y py] kt pt] (.Tuple [a, b2] k2 pt2) X.env = pure (some [x, y])) :
    ES X xr Wx (.Assign [.Tuple [.Name x px, .Name y py] kt pt] (.Tuple [a, b2] k2 pt2) pos) fun ρ => bnd (ms ρ) fun ws => bnd (lift (setAll ρ [i, j] ws)) fun ρ' => re (.nx ρ') :=
  PSw (ps_par (g.calm hcm) g.xnd (g.n hi) (g.n hj) hij (by rw [g.sc]; exact hx) (by rw [g.sc]; exact hy) ha hw) fun D σ H h => by
  obtain ⟨μ, ρ, S, z, hs, hr, hm, fi⟩ := h
  show tA X.K xr Wx ms σ H _
  refine sqS (R := rA X.K) hs hr hm fi fun μ1 S1 H1 ws vs st1 rs1 re1 rw1 h1 fi1 => ?_
  obtain ⟨ρ', e, h2⟩ := lift_ok h1
  cases rw1 with
  | nil => cases e
  | cons r1 t =>
    cases t with
    | nil => cases e
    | cons r2 t =>
      cases t with
      | cons _ _ => cases e
      | nil =>
        cases e
        cases h2
        exact ⟨_, _, rfl, fi1 μ1 H1 _ (Stp.refl rs1) rs1 ((re1.set r1).set r2)⟩
theorem s_par3 {l : Nat} {z : Str} {b2 b3 : Expr} {kt k2 : Nat} {px py pz pt pt2 : Pos} (g : Gd T sm xr k Γ X Wx) (hcm : Γ.cm = true) (hi : Γ.N[i]? = some x) (hj : Γ.N[j]? = some y) (hl : Γ.N[l]? = some z) (hij : i ≠ j) (hil : i ≠ l) (hjl : j ≠ l)
    (hx : Γ.sc.names.lookup x = some .local) (hy : Γ.sc.names.lookup y = some .local) (hz : Γ.sc.names.lookup z = some .local) (ha : EA X xr Wx [a, b2, b3] ms)
    (hw : swappedStores [.Tuple [.Name x px, .Name y py, .Name z pz] kt pt] (.Tuple [a, b2, b3] k2 pt2) X.env = pure (some [x, y, z])) :
    ES X xr Wx (.Assign [.Tuple [.Name x px, .Name y py, .Name z pz] kt pt] (.Tuple [a, b2, b3] k2 pt2) pos) fun ρ => bnd (ms ρ) fun ws => bnd (lift (setAll ρ [i, j, l] ws)) fun ρ' => re (.nx ρ') :=
  PSw (ps_par3 (g.calm hcm) g.xnd (g.n hi) (g.n hj) (g.n hl) hij hil hjl (by rw [g.sc]; exact hx) (by rw [g.sc]; exact hy) (by rw [g.sc]; exact hz) ha hw) fun D σ H h => by
  obtain ⟨μ, ρ, S, z, hs, hr, hm, fi⟩ := h
  show tA X.K xr Wx ms σ H _
  refine sqS (R := rA X.K) hs hr hm fi fun μ1 S1 H1 ws vs st1 rs1 re1 rw1 h1 fi1 => ?_
  obtain ⟨ρ', e, h2⟩ := lift_ok h1
  cases rw1 with
  | nil => cases e
  | cons r1 t =>
    cases t with
    | nil => cases e
    | cons r2 t =>
      cases t with
      | nil => cases e
      | cons r3 t =>
        cases t with
        | cons _ _ => cases e
        | nil =>
          cases e
          cases h2
          exact ⟨_, _, _, rfl, fi1 μ1 H1 _ (Stp.refl rs1) rs1 (((re1.set r1).set r2).set r3)⟩
theorem s_exp (he : EE X xr Wx e m) (hn : ncmp e = true) : ES X xr Wx (.Expr e pos) fun ρ => bnd (m ρ) fun _ => re (.nx ρ) :=
  PSw (ps_expr he (ncmp_eq hn)) fun D σ H h => by
  obtain ⟨μ, ρ, S, z, hs, hr, hm, fi⟩ := h
  show tE X.K xr Wx m σ H _
  refine sqS hs hr hm fi fun μ1 S1 H1 x v st1 rs1 re1 rw1 h1 fi1 => ?_
  cases h1
  exact fi1 μ1 H1 _ (Stp.refl rs1) rs1 re1
theorem next_ok (D : Ends) (σ : L2.St) (H : Hp) (h : tS X.K xr Wx (fun ρ => re (.nx ρ)) D σ H) : D.nx σ H := by
  obtain ⟨μ, ρ, S, z, hs, hr, hm, fi⟩ := h
  cases hm
  exact fi μ H _ (Stp.refl hs) hs hr
theorem s_doc {jj : Nat} : ES X xr Wx (.Expr (.Constant (.str x) jj p) pos) fun ρ => re (.nx ρ) := PSw ps_doc fun D σ H h => next_ok D σ H h
theorem s_pass : ES X xr Wx (.Pass pos) fun ρ => re (.nx ρ) := PSw ps_pass fun D σ H h => next_ok D σ H h
theorem s_brk : ES X xr Wx (.Break pos) fun ρ => re (.bk ρ) := PSw ps_break fun D σ H h => by
  obtain ⟨μ, ρ, S, z, hs, hr, hm, fi⟩ := h
  cases hm
  exact fi μ H _ (Stp.refl hs) hs hr
theorem s_cnt : ES X xr Wx (.Continue pos) fun ρ => re (.ct ρ) := PSw ps_continue fun D σ H h => by
  obtain ⟨μ, ρ, S, z, hs, hr, hm, fi⟩ := h
  cases hm
  exact fi μ H _ (Stp.refl hs) hs hr
theorem s_never : ES X xr Wx st fun _ => no := PSw ps_never fun D σ H h => by
  obtain ⟨μ, ρ, S, z, hs, hr, hm, fi⟩ := h
  cases hm
theorem s_ret (he : EE X xr Wx e m) : ES X xr Wx (.Return (some e) pos) fun ρ => bnd (m ρ) fun w => re (.rt w) := PSw (ps_ret he) fun D σ H h => by
  obtain ⟨μ, ρ, S, z, hs, hr, hm, fi⟩ := h
  show tE X.K xr Wx m σ H _
  refine sqS hs hr hm fi fun μ1 S1 H1 x v st1 rs1 re1 rw1 h1 fi1 => ?_
  cases h1
  exact fi1 μ1 H1 _ (Stp.refl rs1) rs1 rw1
theorem s_retL (he : EE X xr Wx e m) : ES X xr Wx (.Return (some e) pos) fun ρ => bnd (m ρ) fun w => match w with
    | .l j => re (.rl j)
    | _ => no := PSw (ps_ret he) fun D σ H h => by
  obtain ⟨μ, ρ, S, z, hs, hr, hm, fi⟩ := h
  show tE X.K xr Wx m σ H _
  refine sqS hs hr hm fi fun μ1 S1 H1 x v st1 rs1 re1 rw1 h1 fi1 => ?_
  cases x with
  | d x => cases h1
  | x a q => cases h1
  | l j =>
    cases h1
    exact fi1 μ1 H1 _ (Stp.refl rs1) rs1 rw1
theorem s_iff {sa sb : List Stmt} (ht : ET X xr Wx c mc) (ha : ESs X xr Wx sa mf) (hb : ESs X xr Wx sb mg) : ES X xr Wx (.If c sa sb pos) fun ρ => bnd (mc ρ) fun x => bnd (truthB x) fun k => if k = true then mf ρ else mg ρ :=
  PSw (ps_if ht ha hb) fun D σ H h => by
  obtain ⟨μ, ρ, S, z, hs, hr, hm, fi⟩ := h
  have hm : bnd (bnd (mc ρ) truthB) (fun k => if k = true then mf ρ else mg ρ) S = some z := by rw [bnd_assocF]; exact hm
  show tT X.K xr Wx _ σ H _
  refine sqS (m := fun ρ => bnd (mc ρ) truthB) hs hr hm fi fun μ1 S1 H1 x v st1 rs1 re1 rw1 h1 fi1 => ?_
  have e : x = v := rw1
  subst e
  cases x with
  | true => exact ⟨μ1, ρ, S1, z, rs1, re1, h1, fi1⟩
  | false => exact ⟨μ1, ρ, S1, z, rs1, re1, h1, fi1⟩
theorem s_iffT {sa sb : List Stmt} (ht : ET X xr Wx c mc) (ha : ESs X xr Wx sa mf) (hb : ESs X xr Wx sb mg) : ES X xr Wx (.If c sa sb pos) fun ρ => fun S => (bnd (bnd (mc ρ) truthB) fun k => fun S' => (if k = true then mf ρ else mg ρ) (S'.take S.length)) S :=
  PSw (ps_if ht ha hb) fun D σ H h => by
  obtain ⟨μ, ρ, S, z, hs, hr, hm, fi⟩ := h
  show tT X.K xr Wx _ σ H _
  rcases bnd_inv hm with ⟨kk, a, S1, e, rfl⟩ | ⟨k, S1, e, h1⟩
  · exact ⟨μ, ρ, S, _, hs, hr, e, fun μ' H' c d st rs xx => fi μ' H' c d σ st rs xx⟩
  · refine ⟨μ, ρ, S, _, hs, hr, e, fun μ1 H1 b st rs rr => ?_⟩
    have eb : k = b := rr
    subst eb
    obtain ⟨s1, s2, _⟩ := trunc hs st rs
    cases k with
    | true => exact ⟨μ, ρ, _, z, s2, hr.stp s1, h1, fi.stp s1⟩
    | false => exact ⟨μ, ρ, _, z, s2, hr.stp s1, h1, fi.stp s1⟩
theorem ss_nil : ESs X xr Wx [] fun ρ => re (.nx ρ) := PSsw pss_nil fun D σ H h => next_ok D σ H h
theorem ss_cons (h1 : ES X xr Wx st mf) (h2 : ESs X xr Wx sts mg) : ESs X xr Wx (st :: sts) fun ρ => bnd (mf ρ) fun f => match f with
    | .nx ρ' => mg ρ'
    | .bk ρ' => re (.bk ρ')
    | .ct ρ' => re (.ct ρ')
    | .rt w => re (.rt w)
    | .rl w => re (.rl w) := PSsw (pss_cons h1 h2) fun D σ H h => by
  obtain ⟨μ, ρ, S, z, hs, hr, hm, fi⟩ := h
  rcases bnd_inv hm with ⟨kk, a, S1, e, rfl⟩ | ⟨f, S1, e, h1⟩
  · exact ⟨μ, ρ, S, _, hs, hr, e, fi⟩
  · refine ⟨μ, ρ, S, _, hs, hr, e, ?_⟩
    cases f with
    | nx ρ' => exact fun μ' H' σ' st rs re => ⟨μ', ρ', S1, z, rs, re, h1, fi.stp st⟩
    | bk ρ' => cases h1; exact fi
    | ct ρ' => cases h1; exact fi
    | rt w => cases h1; exact fi
    | rl w => cases h1; exact fi
end
end DL

namespace DL
open PySem PySem.Spec PyProof.Rows L2
section
variable {X : Cx} {xr : XRel} {Wx : WX} {pos p p2 : Pos} {a b c e tg : Expr} {es : List Expr} {sts : List Stmt} {st : Stmt} {ma mb mc m : Env' → Mo W} {ms : Env' → Mo (List W)} {mf mg : Env' → Mo Fl} {i j : Nat} {x y : Str} {T : Tb} {sm : Sm} {k : Nat} {Γ : Cfg}
theorem s_whl (g : Gd T sm xr k Γ X Wx) (ht : ET X xr Wx c mc) (hb : ESs X xr Wx sts mf) : ES X xr Wx (.While c sts [] pos) fun ρ => whE (fun ρ => bnd (mc ρ) truthB) mf FU ρ :=
  PSw (ps_while g.po ht hb) fun D σ H h => by
  obtain ⟨μ, ρ, S, z, hs, hr, hm, fi⟩ := h
  refine ⟨fun n σ' H' => ∃ μ' ρ' S', Stp μ H μ' H' ∧ RS X.K μ' S' H' ∧ RE X.K μ' H' ρ' σ' ∧ whE (fun ρ => bnd (mc ρ) truthB) mf n ρ' S' = some z, ⟨FU, μ, ρ, S, Stp.refl hs, hs, hr, hm⟩, ?_⟩
  rintro n σ1 H1 ⟨μ1, ρ1, S1, st1, rs1, re1, h1⟩
  cases n with
  | zero => cases h1
  | succ n =>
    have fi1 := fi.stp st1
    show tT X.K xr Wx _ σ1 H1 _
    refine sqS (m := fun ρ => bnd (mc ρ) truthB) rs1 re1 h1 fi1 fun μ2 S2 H2 b b' st2 rs2 re2 rw2 h2 fi2 => ?_
    have e : b = b' := rw2
    subst e
    cases b with
    | false =>
      rw [if_neg (by decide)] at h2 ⊢
      cases h2
      exact fi2 μ2 H2 _ (Stp.refl rs2) rs2 re2
    | true =>
      rw [if_pos rfl] at h2 ⊢
      refine ⟨_, fun σ' H' w => ⟨n, Nat.lt_succ_self n, w⟩, ?_⟩
      rcases bnd_inv h2 with ⟨kk, a, S3, e3, rfl⟩ | ⟨f, S3, e3, h3⟩
      · exact ⟨μ2, ρ1, S2, _, rs2, re2, e3, fi2⟩
      · refine ⟨μ2, ρ1, S2, _, rs2, re2, e3, ?_⟩
        cases f with
        | nx ρ' => exact fun μ' H' σ' st rs re => ⟨μ', ρ', S3, (st1.trans st2).trans st, rs, re, h3⟩
        | ct ρ' => exact fun μ' H' σ' st rs re => ⟨μ', ρ', S3, (st1.trans st2).trans st, rs, re, h3⟩
        | bk ρ' => cases h3; exact fi2
        | rt w => cases h3; exact fi2
        | rl w => cases h3; exact fi2
theorem s_for {q : Pat} {kk : SK} {iter : Expr} (g : Gd T sm xr k Γ X Wx) (hcm : Γ.cm = true) (hi : PI X tg iter (tI X.K xr Wx kk ms)) (hg : EG X tg q) (hb : ESs X xr Wx sts mf) (hn : nset iter = true) :
    ES X xr Wx (.For tg iter sts [] pos) fun ρ => bnd (ms ρ) fun ws => fun S => match itemsOf kk ws S with
    | some (xs, gg) => if xs.length ≤ LIM then forE (asg q) mf S gg xs ρ S else none
    | none => none :=
  PSw (ps_for g.po (g.calm hcm) hi hg hb (nset_eq hn)) fun D σ H h => by
  obtain ⟨μ, ρ, S, z, hs, hr, hm, fi⟩ := h
  show tI X.K xr Wx kk ms σ H _
  rcases bnd_inv hm with ⟨k, a, S1, e, rfl⟩ | ⟨ws, S1, e, h1⟩
  · exact ⟨μ, ρ, S, _, hs, hr, e, fun μ' H' c d st rs xx => fi μ' H' c d σ st rs xx⟩
  refine ⟨μ, ρ, S, _, hs, hr, e, ?_⟩
  dsimp only at h1 ⊢
  split at h1
  · rename_i xs gg ei
    split at h1
    · refine ⟨xs, gg, ei, fun μ1 H1 J st1 rs1 liv => ?_⟩
      refine ⟨fun i m σ' H' => i ≤ xs.length ∧ m = xs.length - i ∧ ∃ μ' ρ' S', Stp μ1 H1 μ' H' ∧ RS X.K μ' S' H' ∧ RE X.K μ' H' ρ' σ' ∧ forE (asg q) mf S1 gg (xs.drop i) ρ' S' = some z, ⟨xs.length, by omega, by omega, μ1, ρ, S1, Stp.refl rs1, rs1, hr.stp st1, by simpa using h1⟩, ?_⟩
      rintro i m σ' H' ⟨hi, rfl, μ', ρ', S', st, rs, re, hc⟩
      have fi1 := fi.stp (st1.trans st)
      by_cases hx : i = xs.length
      · subst hx
        rw [List.drop_length, forE] at hc
        obtain ⟨sy, hc⟩ := staying_ok hc
        cases hc
        exact .inl ⟨(liv μ' _ H' st rs sy).2, fi1 μ' H' _ (Stp.refl rs) rs re⟩
      · have hlt : i < xs.length := by omega
        rw [List.drop_eq_getElem_cons hlt, forE] at hc
        obtain ⟨sy, hc⟩ := staying_ok hc
        obtain ⟨go, yl⟩ := (liv μ' S' H' st rs sy).1 i xs[i] (List.getElem?_eq_getElem hlt)
        refine .inr ⟨go, _, fun σ2 H2 w => ⟨xs.length - (i + 1), by omega, w⟩, fun x' H2 y => ?_⟩
        obtain ⟨st2, rs2, rd2⟩ := yl x' H2 y
        rcases bnd_inv hc with ⟨k, a, S3, e5, _⟩ | ⟨ρ2, S3, e5, h5⟩
        · exact absurd e5 (asg_ne _ _ _ _ _ _ _)
        refine ⟨μ', ρ', S', xs[i], ρ2, S3, rs2, re.stp st2, rd2, e5, fun μ3 H3 σ3 st3 rs3 re3 _ => ?_⟩
        have fi3 := (fi1.stp st2).stp st3
        rcases bnd_inv h5 with ⟨k, a, S4, e6, rfl⟩ | ⟨f, S4, e6, h6⟩
        · exact ⟨μ3, ρ2, S3, _, rs3, re3, e6, fi3⟩
        · refine ⟨μ3, ρ2, S3, _, rs3, re3, e6, ?_⟩
          cases f with
          | nx ρ4 => exact fun μ4 H4 σ4 st4 rs4 re4 => ⟨by omega, rfl, μ4, ρ4, S4, ((st.trans st2).trans st3).trans st4, rs4, re4, h6⟩
          | ct ρ4 => exact fun μ4 H4 σ4 st4 rs4 re4 => ⟨by omega, rfl, μ4, ρ4, S4, ((st.trans st2).trans st3).trans st4, rs4, re4, h6⟩
          | bk ρ4 => cases h6; exact fi3
          | rt w => cases h6; exact fi3
          | rl w => cases h6; exact fi3
    · cases h1
  · cases h1
theorem s_app {apos cpos : Pos} (g : Gd T sm xr k Γ X Wx) (hi : Γ.N[i]? = some x) (hv : visB Γ x = true) (ho : okN x = true) (hl : (apos.endLine == cpos.line) = true) (hn : nst e = true) (he : EE X xr Wx e m) :
    ES X xr Wx (.Expr (.Call (.Attribute (.Name x p) "append" apos) [e] [] cpos) pos) fun ρ => bnd (lift (match ρ[i]? with
      | some (some (.l j)) => some j
      | _ => none)) fun j => bnd (m ρ) fun w => bnd (onD w) fun d => fun S => match S[j]? with
    | some xs => if xs.length < LIM then some (.ok (.nx ρ) (S.set j (xs ++ [d]))) else none
    | none => none :=
  PSw (ps_expr (pe_bm PySem.F.plainAttrs_list PySem.F.slot_list_append PySem.F.type_list_append mt_append (pe_var (g.n hi) (g.vis hv) (okN_ok ho).1 (okN_ok ho).2.1) (pa_cons he pa_nil (star_cons hn)) rfl (by
      rw [star_cons hn]; rfl) hl (star_cons hn) rfl)) fun D σ H h => by
  obtain ⟨μ, ρ, S, z, hs, hr, hm, fi⟩ := h
  obtain ⟨j, ej, h1⟩ := lift_ok hm
  split at ej <;> first | (cases ej; done) | skip
  rename_i j' e1
  cases ej
  obtain ⟨v, ev, aj, eaj, rfl⟩ := hr.at_ i _ e1
  refine ⟨_, ev, ?_⟩
  have hjl : j < S.length := by rw [← hs.len]; exact (List.getElem?_eq_some_iff.mp eaj).1
  obtain ⟨vs0, e0, r0⟩ := hs.at_ j aj S[j] eaj (List.getElem?_eq_getElem hjl)
  refine ⟨.inl ⟨rfl, _, .inl (.inl e0)⟩, ?_⟩
  show tE X.K xr Wx m σ H _
  refine sqS hs hr h1 fi fun μ1 S1 H1 w v st1 rs1 re1 rw1 h2 fi1 => ?_
  obtain ⟨d, rd, h3⟩ := onD_ok rw1 h2
  split at h3 <;> first | (cases h3; done) | skip
  rename_i xs e2
  split at h3 <;> first | (cases h3; done) | skip
  rename_i hlen
  cases h3
  have eaj1 : μ1.l[j]? = some aj := by
    obtain ⟨t, z⟩ := st1.pre
    rw [z, List.getElem?_append_left (List.getElem?_eq_some_iff.mp eaj).1]
    exact eaj
  obtain ⟨vs, e3, r3⟩ := rs1.at_ j aj xs eaj1 e2
  obtain ⟨st2, rs2⟩ := write_loc rs1 eaj1 (r3.append (.cons rd .nil))
  refine ⟨aj, vs, v, rfl, rfl, e3, ?_, fi1 μ1 _ σ st2 rs2 (re1.stp st2)⟩
  rw [← r3.length, sizeLine_eq]
  have : LIM = 100000 := rfl
  omega
end

def fnK (Γ : Cfg) : Bool := match Γ.sc.kind with
  | .function => true
  | _ => false
def isStar : Expr → Bool
  | .Starred .. => true
  | _ => false
def swNm (kd : Str → Option NameKind) (ts : List Expr) : List Str := ts.filterMap fun
    | .Name id pos => if kd id == some .local && pos.line == (ts.head?.map (·.pos.line)).getD 0 then some id else none
    | _ => none
abbrev swNames (Γ : Cfg) (ts : List Expr) : List Str := swNm (fun x => Γ.sc.names.lookup x) ts
def swL (Γ : Cfg) (ts vs : List Expr) : Option (Option (List Str)) :=
  if !(ts.length == 2 || ts.length == 3) || vs.length != ts.length then some none
  else if vs.any isStar then some none
  else if (swNames Γ ts).length != ts.length || (swNames Γ ts).eraseDups.length != (swNames Γ ts).length then some none
  else if vs.all (foldedForSure 8) then some none
  else if vs.all (constantsAlone 8) then none
  else some (some (swNames Γ ts))
def swB (Γ : Cfg) (tg e : Expr) : Option (Option (List Str)) := match tg with
  | .Tuple ts _ _ => (match e with
    | .Tuple vs _ _ => swL Γ ts vs
    | _ => some none)
  | .List _ _ => none
  | _ => some none
theorem sw_eq (ts vs : List Expr) (kt kv : Nat) (pt pv : Pos) (env : Env) : ∃ Z, swappedStores [.Tuple ts kt pt] (.Tuple vs kv pv) env =
    if !(ts.length == 2 || ts.length == 3) || vs.length != ts.length || env.blockKind != .function then pure none
    else if vs.any isStar then pure none
    else if (swNm env.kindOf ts).length != ts.length || (swNm env.kindOf ts).eraseDups.length != (swNm env.kindOf ts).length then pure none
    else if vs.all (foldedForSure 8) then pure none
    else if vs.all (constantsAlone 8) then Z
    else pure (some (swNm env.kindOf ts)) := ⟨_, rfl⟩
theorem swB_ok {Γ : Cfg} {tg e : Expr} {env : Env} {r : Option (List Str)} (hs : env.scope = Γ.sc) (hk : fnK Γ = true) (h : swB Γ tg e = some r) : swappedStores [tg] e env = pure r := by
  have hb : (env.blockKind != .function) = false := by
    unfold Env.blockKind
    rw [hs]
    unfold fnK at hk
    split at hk
    · rename_i q; rw [q]; rfl
    · cases hk
  cases tg with
  | Tuple ts kt pt =>
    cases e with
    | Tuple vs kv pv =>
      have h : swL Γ ts vs = some r := h
      obtain ⟨Z, ez⟩ := sw_eq ts vs kt kv pt pv env
      have hn : swNm env.kindOf ts = swNames Γ ts := by
        have : env.kindOf = fun x => Γ.sc.names.lookup x := by
          funext x
          unfold Env.kindOf
          rw [hs]
        rw [this]
      rw [ez, hb, Bool.or_false, hn]
      unfold swL at h
      by_cases c1 : (!(ts.length == 2 || ts.length == 3) || vs.length != ts.length) = true
      · rw [if_pos c1] at h ⊢
        cases h; rfl
      rw [if_neg c1] at h ⊢
      by_cases c2 : vs.any isStar = true
      · rw [if_pos c2] at h ⊢
        cases h; rfl
      rw [if_neg c2] at h ⊢
      by_cases c3 : ((swNames Γ ts).length != ts.length || (swNames Γ ts).eraseDups.length != (swNames Γ ts).length) = true
      · rw [if_pos c3] at h ⊢
        cases h; rfl
      rw [if_neg c3] at h ⊢
      by_cases c4 : vs.all (foldedForSure 8) = true
      · rw [if_pos c4] at h ⊢
        cases h; rfl
      rw [if_neg c4] at h ⊢
      by_cases c5 : vs.all (constantsAlone 8) = true
      · rw [if_pos c5] at h; cases h
      rw [if_neg c5] at h ⊢
      cases h; rfl
    | _ => cases h; rfl
  | List _ _ => cases h
  | _ => cases h; cases e <;> rfl
end DL

namespace DL
open PySem PySem.Spec PyProof.Rows L2
section
variable {X : Cx} {xr : XRel} {Wx : WX} {pos p p2 : Pos} {a e : Expr} {e' : Ex} {sts : List Stmt} {st b₀ : Stmt} {ma m : Env' → Mo W} {i : Nat} {x y : Str} {T : Tb} {sm : Sm} {k kk c : Nat} {Γ : Cfg} {su : List Sx}
theorem s_rse (g : Gd T sm xr k Γ X Wx) (hcm : Γ.cm = true) (lo : 2 ≤ kk) (hi : kk < T.nc) (hI : T.hasI kk = true) (hg : glB Γ (T.cname kk) = true) (ho : okN (T.cname kk) = true) (hn : nst a = true) (ha : EE X xr Wx a ma) :
    ES X xr Wx (.Raise (some (.Call (.Name (T.cname kk) p) [a] [] p2)) none pos) fun ρ => bnd (ma ρ) fun w => bnd (onD w) fun d => fun S => some (.exc kk d S) := by
  obtain ⟨cl, exr, CF, _⟩ := g.cls
  have IC := CF.ini kk lo hi hI
  have T1 := CF.cls kk lo hi
  refine PSw (ps_raise (g.calm hcm) g.tk (pmk_ini IC T1 (g.room hcm) g.k2 ⟨Wx, g.tk⟩ (g.gl hg) (CF.own kk (by omega) hi) (okN_ok ho).1 (a_cons hn ha a_nil) (star_cons hn))) fun D σ H h => ?_
  obtain ⟨μ, ρ, S, z, hs, hr, hm, fi⟩ := h
  show tA X.K xr Wx _ σ H _
  have hm : bnd (bnd (ma ρ) fun w => bnd (re []) fun ws => re (w :: ws)) (fun ws => match ws with
    | [w] => bnd (onD w) fun d => fun S => some (.exc kk d S)
    | _ => no) S = some z := by
    rw [bnd_assocF]
    exact hm
  refine sqS (R := rA X.K) (m := fun ρ => bnd (ma ρ) fun w => bnd (re []) fun ws => re (w :: ws)) hs hr hm fi fun μ1 S1 H1 ws vs st1 rs1 re1 rw1 h1 fi1 => ?_
  split at h1 <;> first | (cases h1; done) | skip
  rename_i w
  obtain ⟨v, rfl, rw2⟩ := rw1.one'
  obtain ⟨d, rd, h2⟩ := onD_ok rw2 h1
  cases h2
  refine ini_read (v := v) (H1 := H1) (Q := fun cls d H' => Wx cls d σ H') IC T1 fun dd hdd => ?_
  obtain ⟨st2, rs2, _⟩ := fresh_stp (o := .xd [(("given" : Str), v)]) rs1 hdd
  refine fi1 μ1 _ _ _ σ st2 rs2 ?_
  rw [exr]
  exact ⟨lo, hi, rfl, fun _ => ⟨dd, v, rfl, upd_same, RD.stp st2 _ _ rd⟩, fun z => absurd (z.symm.trans hI) (by decide)⟩
theorem s_rse0 (g : Gd T sm xr k Γ X Wx) (hcm : Γ.cm = true) (lo : 2 ≤ kk) (hi : kk < T.nc) (hI : T.hasI kk = false) (hg : glB Γ (T.cname kk) = true) (ho : okN (T.cname kk) = true) :
    ES X xr Wx (.Raise (some (.Call (.Name (T.cname kk) p) [] [] p2)) none pos) fun _ => fun S => some (.exc kk .none S) := by
  obtain ⟨cl, exr, CF, _⟩ := g.cls
  have T1 := CF.cls kk lo hi
  refine PSw (ps_raise (g.calm hcm) g.tk (pmk_own0 (CF.non kk lo hi hI) T1 (g.gl hg) (CF.own kk (by omega) hi) (okN_ok ho).1)) fun D σ H h => ?_
  obtain ⟨μ, ρ, S, z, hs, hr, hm, fi⟩ := h
  cases hm
  refine fi μ H _ _ σ (Stp.refl hs) hs ?_
  rw [exr]
  exact ⟨lo, hi, rfl, fun z => absurd (z.symm.trans hI) (by decide), fun _ => rfl⟩
theorem Gd.tr (g : Gd T sm xr k Γ X Wx) {W : WX} {pn : List (Addr × Obj)} {xe : Value → Shared → Prop} (hcm : Γ.cm = true) (tk : Takes (X.tr pn xe) W) (po : PassesOwn (model X.prog X.w) X.A X.env xe) : Gd T sm xr k Γ (X.tr pn xe) W where
  N := g.N
  nd := g.nd
  sc := g.sc
  fn := g.fn
  calm := g.calm
  room := g.room
  grd := g.grd
  un := g.un
  tk := tk
  po := po
  glob := g.glob
  call := g.call
  blt := g.blt
  math := g.math
  sys := g.sys
  k2 := g.k2
  top := g.top
  hI := g.hI
  noe := g.noe
  cls := by
    obtain ⟨cl, h1, h2, _⟩ := g.cls
    refine ⟨cl, h1, h2, fun a d k e => ?_⟩
    rw [g.noe hcm] at e
    cases e
theorem Gd.suite (g : Gd T sm xr k Γ X Wx) {cl : Nat → Addr} (h1 : xr = xrOf X.K T.nc T.hasI cl) (h2 : ClsFact X.prog X.w X.K X.mg T.nc T.cname T.hasI cl) {ad : Addr} {od : Option Addr} {oe : Obj} {pn : List (Addr × Obj)} (lo : 2 ≤ kk) (hi : kk < T.nc)
    (hz : Zc (.ref (cl kk)) od oe) (hf : ∃ vs, oe.data = .fields vs) : Gd T { sm with exc := some (ad, od, kk) } xr k { Γ with cm := false } (X.suite ad ((ad, oe) :: pn)) W0 where
  N := g.N
  nd := g.nd
  sc := g.sc
  fn := g.fn
  calm := fun z => by cases z
  room := fun z => by cases z
  grd := g.grd
  un := g.un
  tk := takes0
  po := PassesOwn.never
  glob := g.glob
  call := g.call
  blt := g.blt
  math := g.math
  sys := g.sys
  k2 := g.k2
  top := g.top
  hI := g.hI
  noe := fun z => by cases z
  cls := ⟨cl, h1, h2, fun a d k e => by
    cases e
    exact ⟨⟨X, oe, pn, rfl, hz, hf⟩, lo, hi⟩⟩
theorem s_try {np hp : Pos} (g : Gd T sm xr k Γ X Wx) (hcm : Γ.cm = true) (hraw : Γ.raw = none) (hc1 : 1 ≤ c) (hc2 : c < T.nc) (hg : glB Γ (T.cname c) = true) (ho : okN (T.cname c) = true) (hi : Γ.N[i]? = some x) (hl : Γ.sc.names.lookup x = some .local) (hn : ncmp e = true)
    (hb : ∀ (W : WX) (pn : List (Addr × Obj)) (xe : Value → Shared → Prop), Gd T sm xr k Γ (X.tr pn xe) W → EE (X.tr pn xe) xr W e (evE sm e')) 
    (hsu : ∀ (ad : Addr) (od : Option Addr) (oe : Obj) (pn : List (Addr × Obj)) (kk : Nat), Gd T { sm with exc := some (ad, od, kk) } xr k { Γ with cm := false } (X.suite ad ((ad, oe) :: pn)) W0 → ESs (X.suite ad ((ad, oe) :: pn)) xr W0 (b₀ :: sts) (exSs { sm with exc := some (ad, od, kk) } su)) :
    ES X xr Wx (.Try [.Expr e p] [.ExceptHandler (some (.Name (T.cname c) np)) (some x) (b₀ :: sts) hp] [] [] pos) (exS sm (.tryE e' c i su)) := by
  obtain ⟨cl, exr, CF, _⟩ := g.cls
  obtain ⟨t1, t2⟩ := g.top hraw
  have nm : Names X (T.cname c) (.ref (cl c)) := ⟨g.gl hg, (okN_ok ho).1, .inl (CF.own c hc1 hc2)⟩
  have kl : X.env.kindOf x = some .local := by
    unfold Env.kindOf
    rw [g.sc]
    exact hl
  refine PSw (ps_try_as (tb := fun W D σ H => tE X.K xr W (evE sm e') σ H fun _ H1 => D.nx σ H1)
    (ts := fun ad cls d D σ H => ∃ kk, cls = .ref (cl kk) ∧ 2 ≤ kk ∧ kk < T.nc ∧ tS X.K xr W0 (exSs { sm with exc := some (ad, d, kk) } su) D σ H) (Wout := Wx) t1 t2 g.xnd (g.n hi) kl nm g.tk (fun W pn xe tk po => ?_) (fun ad oe cls d pn hz hf => ?_)) fun D σ H h => ?_
  · have he := hb W pn xe (g.tr hcm tk po)
    exact PSsw (pss_one (ps_expr he (ncmp_eq hn))) fun D σ H h => h
  · refine ⟨fun pins s σ H D I ⟨kk, hcls, lo, hi, h⟩ => ?_⟩
    subst hcls
    exact (hsu ad d oe pn kk (g.suite exr CF lo hi hz hf)).run pins s σ H D I h
  · obtain ⟨μ, ρ, S, r, hs, hr, hm, fi⟩ := h
    rw [exS] at hm
    dsimp only at hm
    split at hm
    · rename_i w S' ew
      cases hm
      exact ⟨μ, ρ, S, _, hs, hr, ew, fun μ' H' b st rs _ => fi μ' H' σ st rs (hr.stp st)⟩
    · rename_i kk pl S' ew
      refine ⟨μ, ρ, S, _, hs, hr, ew, fun μ' H' cls d st rs x' => ?_⟩
      have x0 := x'
      rw [exr] at x0
      obtain ⟨lo, hk2, rfl, hyes, hno⟩ := x0
      refine ⟨isx kk c, CF.exm kk c lo hk2 hc1 hc2, fun hx ad had => ?_, fun hx => ?_⟩
      · rw [if_pos hx] at hm
        refine ⟨kk, rfl, lo, hk2, ?_⟩
        have key : ∀ q : Option (Addr × PyData), q.map (·.1) = d → (∀ dd p, q = some (dd, p) → ∃ u, H' dd = some (.xd [(("given" : Str), u)]) ∧ RD X.K μ' H' p u) →
            (bnd (noexc (exSs { sm with exc := some (ad, d, kk) } su (ρ.set i (some (.x ad q))))) fun f => re (clrF i f)) S' = some r →
            tS X.K xr W0 (exSs { sm with exc := some (ad, d, kk) } su) { nx := fun σ' H' => D.nx (σ'.set i none) H', rt := D.rt, bk := fun σ' H' => D.bk (σ'.set i none) H', ct := fun σ' H' => D.ct (σ'.set i none) H' } (σ.set i (some (.ref ad))) H' := by
          intro q hq hq2 hrun
          rcases bnd_inv hrun with ⟨k2, a2, S2, e2, _⟩ | ⟨fl, S2, e2, h2⟩
          · obtain ⟨_, _, _, e3⟩ := noexc_ok e2
            cases e3
          · obtain ⟨fl', S2', e3, e4⟩ := noexc_ok e2
            cases e4
            cases h2
            refine ⟨μ', _, S', _, rs, (hr.stp st).set (w := .x ad q) ⟨rfl, hq2⟩, e3, ?_⟩
            have fi2 : FiF X.K μ H S2 D (clrF i fl) := fi
            cases fl with
            | nx ρ' => exact fun μ2 H2 σ2 st2 rs2 re2 => fi2 μ2 H2 _ (st.trans st2) rs2 re2.clear
            | bk ρ' => exact fun μ2 H2 σ2 st2 rs2 re2 => fi2 μ2 H2 _ (st.trans st2) rs2 re2.clear
            | ct ρ' => exact fun μ2 H2 σ2 st2 rs2 re2 => fi2 μ2 H2 _ (st.trans st2) rs2 re2.clear
            | rt w => exact fun μ2 H2 v st2 rs2 rw2 => fi2 μ2 H2 v (st.trans st2) rs2 rw2
            | rl j => exact fun μ2 H2 v st2 rs2 rw2 => fi2 μ2 H2 v (st.trans st2) rs2 rw2
        have hsm : sm.hasI kk = T.hasI kk := by rw [g.hI]
        cases hh : T.hasI kk with
        | true =>
          obtain ⟨dd, u, rfl, hdd, hu⟩ := hyes hh
          have run := tryM_ok hm ad dd
          rw [hsm, hh, if_pos rfl, if_pos rfl] at run
          refine key (some (dd, pl)) rfl (fun d2 p2 e2 => ?_) run
          cases e2
          exact ⟨u, hdd, hu⟩
        | false =>
          obtain rfl := hno hh
          have run := tryM_ok hm ad 0
          rw [hsm, hh, if_neg (by decide), if_neg (by decide)] at run
          exact key none rfl (fun d2 p2 e2 => by cases e2) run
      · rw [if_neg (by simp [hx])] at hm
        cases hm
        exact fi μ' H' _ _ σ st rs x'
    · cases hm
end
end DL

namespace DL
open PySem PySem.Spec PyProof.Rows L2

def isLc : Expr → Bool
  | .ListComp _ _ _ _ => true
  | _ => false
def swC (Γ : Cfg) (x : Str) (p : Pos) : Expr → Bool
  | .ListComp e g s q => Γ.sc.names.lookup x == some .local && p.line == q.line && !(s.names.any fun (n, k) => n == x && (k == .local || k == .cell))
  | _ => false
theorem blkK {Γ : Cfg} {env : Env} (hs : env.scope = Γ.sc) (hk : fnK Γ = true) : env.blockKind = .function := by
  unfold Env.blockKind
  rw [hs]
  unfold fnK at hk
  split at hk
  · rename_i q; rw [q]; rfl
  · cases hk
theorem swC_ok {Γ : Cfg} {env : Env} {x : Str} {p : Pos} {l : Nat} {y : Expr} (hs : env.scope = Γ.sc) (hk : fnK Γ = true) (h : ncmp y = true ∨ isLc y = true) : swapsWith y (some (.Name x p)) l env = pure (swC Γ x p y) := by
  rcases h with h | h
  · rw [ncmp_eq h]
    cases y <;> first | rfl | cases h
  · cases y <;> first | (cases h; done) | skip
    show pure (env.blockKind == .function && env.kindOf x == some .local && _ && _) = pure _
    rw [blkK hs hk]
    unfold Env.kindOf
    rw [hs]
    rfl
def isTS : Expr → Bool
  | .Tuple _ _ _ => true
  | .Subscript _ _ _ => true
  | _ => false
theorem sw_ts {tg y : Expr} {l : Nat} {env : Env} (h : ncmp y = true ∨ isTS tg = true) : swapsWithSole [tg] y l env = pure false := by
  rcases h with h | h
  · exact ncmp_eq h
  · cases tg <;> first | (cases h; done) | (cases y <;> rfl)
mutual
def chkS (T : Tb) (Γ : Cfg) : Sx → Stmt → Bool
  | .set i e, x => match x with
    | .Assign [.Name n p] y _ => decide (Γ.N[i]? = some n) && stB Γ n && (ncmp y || isLc y) && !(swC Γ n p y) && chkE T e Γ y
    | _ => false
  | .setC i e, x => match x with
    | .Assign [.Name n p] y _ => decide (Γ.N[i]? = some n) && decide (Γ.sc.names.lookup n = some .local) && isLc y && swC Γ n p y && chkE T e Γ y && (match e with
      | .cmpr .. => true
      | _ => false)
    | _ => false
  | .asgn q e, x => match x with
    | .Assign [tg] y _ => nst tg && chkP Γ q tg && chkE T e Γ y && (ncmp y || isTS tg) && decide (swB Γ tg y = some none)
    | _ => false
  | .par is es, x => match x with
    | .Assign [.Tuple [.Name n p, .Name n' p'] kt pt] (.Tuple [u, v] k2 p2) _ => (match is with
      | [i, j] => Γ.cm && decide (Γ.N[i]? = some n) && decide (Γ.N[j]? = some n') && decide (i ≠ j) && decide (Γ.sc.names.lookup n = some .local) && decide (Γ.sc.names.lookup n' = some .local) && nst u && nst v && chkEs T es Γ [u, v] &&
        decide (swB Γ (.Tuple [.Name n p, .Name n' p'] kt pt) (.Tuple [u, v] k2 p2) = some (some [n, n']))
      | _ => false)
    | .Assign [.Tuple [.Name n p, .Name n' p', .Name n'' p''] kt pt] (.Tuple [u, v, w] k2 p2) _ => (match is with
      | [i, j, l] => Γ.cm && decide (Γ.N[i]? = some n) && decide (Γ.N[j]? = some n') && decide (Γ.N[l]? = some n'') && decide (i ≠ j) && decide (i ≠ l) && decide (j ≠ l) && decide (Γ.sc.names.lookup n = some .local) && decide (Γ.sc.names.lookup n' = some .local) && decide (Γ.sc.names.lookup n'' = some .local) && nst u && nst v && nst w && chkEs T es Γ [u, v, w] &&
        decide (swB Γ (.Tuple [.Name n p, .Name n' p', .Name n'' p''] kt pt) (.Tuple [u, v, w] k2 p2) = some (some [n, n', n'']))
      | _ => false)
    | _ => false
  | .exp e, x => match x with
    | .Expr y _ => ncmp y && chkE T e Γ y
    | _ => false
  | .doc, x => match x with
    | .Expr (.Constant (.str _) _ _) _ => true
    | _ => false
  | .app i e, x => match x with
    | .Expr (.Call (.Attribute (.Name n _) at_ apos) [y] [] cpos) _ => decide (at_ = "append") && decide (Γ.N[i]? = some n) && visB Γ n && okN n && (apos.endLine == cpos.line) && nst y && chkE T e Γ y
    | _ => false
  | .iff t a b, x => match x with
    | .If c sa sb _ => chkE T t Γ c && chkSs T Γ a sa && chkSs T Γ b sb
    | _ => false
  | .iffT t a b, x => match x with
    | .If c sa sb _ => chkE T t Γ c && chkSs T Γ a sa && chkSs T Γ b sb
    | _ => false
  | .whl t b, x => match x with
    | .While c sb [] _ => chkE T t Γ c && chkSs T Γ b sb
    | _ => false
  | .fors q k src b, x => match x with
    | .For tg iter sb [] _ => Γ.cm && nset iter && (match srcArgs Γ tg k iter with
        | some ys => chkEs T src Γ ys
        | none => false) && chkP Γ q tg && chkSs T Γ b sb
    | _ => false
  | .ret e, x => match x with
    | .Return (some y) _ => chkE T e Γ y
    | _ => false
  | .retL e, x => match x with
    | .Return (some y) _ => chkE T e Γ y
    | _ => false
  | .pass, x => match x with
    | .Pass _ => true
    | _ => false
  | .brk, x => match x with
    | .Break _ => true
    | _ => false
  | .cnt, x => match x with
    | .Continue _ => true
    | _ => false
  | .never, _ => true
  | .rse kk e, x => match x with
    | .Raise (some (.Call (.Name n _) [y] [] _)) none _ => Γ.cm && decide (2 ≤ kk) && decide (kk < T.nc) && T.hasI kk && decide (n = T.cname kk) && glB Γ n && okN n && nst y && chkE T e Γ y
    | _ => false
  | .rse0 kk, x => match x with
    | .Raise (some (.Call (.Name n _) [] [] _)) none _ => Γ.cm && decide (2 ≤ kk) && decide (kk < T.nc) && !T.hasI kk && decide (n = T.cname kk) && glB Γ n && okN n
    | _ => false
  | .tryE e c i su, x => match x with
    | .Try [.Expr y _] [.ExceptHandler (some (.Name n _)) (some v) (b₀ :: sts) _] [] [] _ => Γ.cm && decide (Γ.raw.isNone = true) && decide (1 ≤ c) && decide (c < T.nc) && decide (n = T.cname c) && glB Γ n && okN n && decide (Γ.N[i]? = some v) && decide (Γ.sc.names.lookup v = some .local) && ncmp y && chkE T e Γ y && chkSs T { Γ with cm := false } su (b₀ :: sts)
    | _ => false
def chkSs (T : Tb) (Γ : Cfg) : List Sx → List Stmt → Bool
  | [], xs => xs.isEmpty
  | s :: ss, xs => match xs with
    | x :: xs => chkS T Γ s x && chkSs T Γ ss xs
    | [] => false
end
section
variable {T : Tb} {sm : Sm} {xr : XRel} {k : Nat} {Γ : Cfg}
def MN (T : Tb) (sm : Sm) (xr : XRel) (k : Nat) (Γ : Cfg) (s : Sx) : Prop := ∀ (X : Cx) (Wx : WX) (x : Stmt), Gd T sm xr k Γ X Wx → fnK Γ = true → chkS T Γ s x = true → ES X xr Wx x (exS sm s)
def ML (T : Tb) (sm : Sm) (xr : XRel) (k : Nat) (Γ : Cfg) (s : List Sx) : Prop := ∀ (X : Cx) (Wx : WX) (x : List Stmt), Gd T sm xr k Γ X Wx → fnK Γ = true → chkSs T Γ s x = true → ESs X xr Wx x (exSs sm s)
theorem ml_nil : ML T sm xr k Γ [] := by
  intro X Wx x g hk h
  unfold chkSs at h
  cases x with
  | nil => simpa only [exSs] using ss_nil (X := X) (xr := xr) (Wx := Wx)
  | cons => cases h
theorem ml_cons {s : Sx} {ss : List Sx} (i1 : MN T sm xr k Γ s) (i2 : ML T sm xr k Γ ss) : ML T sm xr k Γ (s :: ss) := by
  intro X Wx x g hk h
  unfold chkSs at h
  cases x with
  | nil => cases h
  | cons x xs =>
    simp only [Bool.and_eq_true] at h
    have := ss_cons (i1 X Wx x g hk h.1) (i2 X Wx xs g hk h.2)
    simp only [exSs]
    exact this
theorem mn_set {i : Nat} {e : Ex} : MN T sm xr k Γ (.set i e) := by
  intro X Wx x g hk h
  unfold chkS at h
  split at h
  · simp only [Bool.and_eq_true, Bool.or_eq_true, decide_eq_true_eq, Bool.not_eq_true'] at h
    obtain ⟨⟨⟨⟨h1, h2⟩, h3⟩, h4⟩, h5⟩ := h
    simp only [exS]
    exact s_set g h1 h2 (by rw [swC_ok g.sc hk h3, h4]) (snd e Γ X Wx _ g h5).1
  · cases h
theorem mn_asgn {q : Pat} {e : Ex} : MN T sm xr k Γ (.asgn q e) := by
  intro X Wx x g hk h
  unfold chkS at h
  split at h
  · simp only [Bool.and_eq_true, Bool.or_eq_true, decide_eq_true_eq] at h
    obtain ⟨⟨⟨⟨h1, h2⟩, h3⟩, h4⟩, h5⟩ := h
    simp only [exS]
    exact s_asgn (snd e Γ X Wx _ g h3).1 (sndP g q _ h2) (sw_ts h4) (swB_ok g.sc hk h5) h1
  · cases h
theorem mn_par {is : List Nat} {es : List Ex} : MN T sm xr k Γ (.par is es) := by
  intro X Wx x g hk h
  unfold chkS at h
  split at h
  · split at h
    · simp only [Bool.and_eq_true, decide_eq_true_eq] at h
      obtain ⟨⟨⟨⟨⟨⟨⟨⟨⟨hcm, h1⟩, h2⟩, h3⟩, h4⟩, h5⟩, h6⟩, h7⟩, h8⟩, h9⟩ := h
      simp only [exS]
      exact s_par2 g hcm h1 h2 h3 h4 h5 ((sndL es Γ X Wx _ g h8).args (by simp [h6, h7])) (swB_ok g.sc hk h9)
    · cases h
  · split at h
    · simp only [Bool.and_eq_true, decide_eq_true_eq] at h
      obtain ⟨⟨⟨⟨⟨⟨⟨⟨⟨⟨⟨⟨⟨⟨hcm, h1⟩, h2⟩, h3⟩, h4⟩, h5⟩, h6⟩, h7⟩, h8⟩, h9⟩, h10⟩, h11⟩, h12⟩, h13⟩, h14⟩ := h
      simp only [exS]
      exact s_par3 g hcm h1 h2 h3 h4 h5 h6 h7 h8 h9 ((sndL es Γ X Wx _ g h13).args (by simp [h10, h11, h12])) (swB_ok g.sc hk h14)
    · cases h
  · cases h
theorem mn_exp {e : Ex} : MN T sm xr k Γ (.exp e) := by
  intro X Wx x g hk h
  unfold chkS at h
  split at h
  · simp only [Bool.and_eq_true] at h
    simp only [exS]
    exact s_exp (snd e Γ X Wx _ g h.2).1 h.1
  · cases h
theorem mn_doc : MN T sm xr k Γ .doc := by
  intro X Wx x g hk h
  unfold chkS at h
  split at h
  · simp only [exS]
    exact s_doc
  · cases h
theorem mn_app {i : Nat} {e : Ex} : MN T sm xr k Γ (.app i e) := by
  intro X Wx x g hk h
  unfold chkS at h
  split at h
  · simp only [Bool.and_eq_true, decide_eq_true_eq] at h
    obtain ⟨⟨⟨⟨⟨⟨rfl, h2⟩, h3⟩, h4⟩, h5⟩, h6⟩, h7⟩ := h
    simp only [exS]
    exact s_app g h2 h3 h4 h5 h6 (snd e Γ X Wx _ g h7).1
  · cases h
theorem mn_iff {t : Ex} {a b : List Sx} (ia : ML T sm xr k Γ a) (ib : ML T sm xr k Γ b) : MN T sm xr k Γ (.iff t a b) := by
  intro X Wx x g hk h
  unfold chkS at h
  split at h
  · simp only [Bool.and_eq_true] at h
    simp only [exS]
    exact s_iff (snd t Γ X Wx _ g h.1.1).2 (ia X Wx _ g hk h.1.2) (ib X Wx _ g hk h.2)
  · cases h
theorem mn_iffT {t : Ex} {a b : List Sx} (ia : ML T sm xr k Γ a) (ib : ML T sm xr k Γ b) : MN T sm xr k Γ (.iffT t a b) := by
  intro X Wx x g hk h
  unfold chkS at h
  split at h
  · simp only [Bool.and_eq_true] at h
    simp only [exS]
    exact s_iffT (snd t Γ X Wx _ g h.1.1).2 (ia X Wx _ g hk h.1.2) (ib X Wx _ g hk h.2)
  · cases h
theorem mn_whl {t : Ex} {b : List Sx} (ib : ML T sm xr k Γ b) : MN T sm xr k Γ (.whl t b) := by
  intro X Wx x g hk h
  unfold chkS at h
  split at h
  · simp only [Bool.and_eq_true] at h
    simp only [exS]
    exact s_whl g (snd t Γ X Wx _ g h.1).2 (ib X Wx _ g hk h.2)
  · cases h
theorem mn_fors {q : Pat} {kk : SK} {src : List Ex} {b : List Sx} (ib : ML T sm xr k Γ b) : MN T sm xr k Γ (.fors q kk src b) := by
  intro X Wx x g hk h
  unfold chkS at h
  split at h
  · simp only [Bool.and_eq_true] at h
    obtain ⟨⟨⟨⟨hcm, h1⟩, h2⟩, h3⟩, h4⟩ := h
    simp only [exS]
    have hi : ∀ {tg iter}, (match srcArgs Γ tg kk iter with
        | some ys => chkEs T src Γ ys
        | none => false) = true → PI X tg iter (tI X.K xr Wx kk (evEs sm src)) := fun {tg iter} h6 => by
      split at h6
      · exact src_ok g (by assumption) (sndL src Γ X Wx _ g h6)
      · cases h6
    exact s_for g hcm (hi h2) (sndP g q _ h3) (ib X Wx _ g hk h4) h1
  · cases h
theorem mn_ret {e : Ex} : MN T sm xr k Γ (.ret e) := by
  intro X Wx x g hk h
  unfold chkS at h
  split at h
  · simp only [exS]
    exact s_ret (snd e Γ X Wx _ g h).1
  · cases h
theorem mn_retL {e : Ex} : MN T sm xr k Γ (.retL e) := by
  intro X Wx x g hk h
  unfold chkS at h
  split at h
  · simp only [exS]
    exact s_retL (snd e Γ X Wx _ g h).1
  · cases h
theorem mn_pass : MN T sm xr k Γ .pass := by
  intro X Wx x g hk h
  unfold chkS at h
  split at h
  · simp only [exS]; exact s_pass
  · cases h
theorem mn_brk : MN T sm xr k Γ .brk := by
  intro X Wx x g hk h
  unfold chkS at h
  split at h
  · simp only [exS]; exact s_brk
  · cases h
theorem mn_cnt : MN T sm xr k Γ .cnt := by
  intro X Wx x g hk h
  unfold chkS at h
  split at h
  · simp only [exS]; exact s_cnt
  · cases h
theorem mn_never : MN T sm xr k Γ .never := by
  intro X Wx x g hk h
  simp only [exS]; exact s_never
theorem mn_setC {i : Nat} {e : Ex} : MN T sm xr k Γ (.setC i e) := by
  intro X Wx x g hk h
  unfold chkS at h
  split at h
  · simp only [Bool.and_eq_true, decide_eq_true_eq] at h
    obtain ⟨⟨⟨⟨⟨h1, h2⟩, h3⟩, h4⟩, h5⟩, h6⟩ := h
    split at h6 <;> first | (cases h6; done) | skip
    rename_i kk src p cs e own
    unfold chkE at h5
    split at h5
    · rename_i elt tg iter ifs scope p1
      simp only [Bool.and_eq_true, decide_eq_true_eq, List.all_eq_true] at h5
      obtain ⟨⟨⟨⟨⟨⟨⟨⟨⟨hcm, q1⟩, q2⟩, q3⟩, q4⟩, q5⟩, q6⟩, q7⟩, q8⟩, q9⟩ := h5
      have hi : PI X tg iter (tI X.K xr Wx kk (evEs sm src)) := by
        split at q6
        · exact src_ok g (by assumption) (sndL src Γ X Wx _ g q6)
        · cases q6
      simp only [exS, evE]
      refine PSw (ps_setLc (te := tE X.K xr W0 (evE sm e)) (tt := tT X.K xr W0 fun ρ => cndE sm cs ρ) (g := tGt X.K p.slots (asg p)) (g.calm hcm) g.xnd (g.n h1) (by rw [g.sc]; exact h2) (by rw [swC_ok g.sc hk (.inr h3), h4]) hi (blkOk_ok g q2) (fun s H C cl fp => sndP (g.blk hcm scope s H C cl fp) p tg q7) (fun s H C cl fp => (sndL cs _ _ _ _ (g.blk hcm scope s H C cl fp) q8).tests q5) (fun s H C cl fp => (snd e _ _ _ _ (g.blk hcm scope s H C cl fp) q9).1) (nset_eq q1)) fun D σ H h => ?_
      rw [q3]
      refine lc_read q4 σ H _ ?_
      obtain ⟨μ, ρ, S, z, hs, hr, hm, fi⟩ := h
      refine sqS hs hr hm fi fun μ1 S1 H1 x v st1 rs1 re1 rw1 h1 fi1 => ?_
      cases h1
      exact fi1 μ1 H1 _ (Stp.refl rs1) rs1 (re1.set rw1)
    · cases h5
  · cases h
theorem mn_rse {kk : Nat} {e : Ex} : MN T sm xr k Γ (.rse kk e) := by
  intro X Wx x g hk h
  unfold chkS at h
  split at h
  · simp only [Bool.and_eq_true, decide_eq_true_eq] at h
    obtain ⟨⟨⟨⟨⟨⟨⟨⟨hcm, h1⟩, h2⟩, h3⟩, rfl⟩, h5⟩, h6⟩, h7⟩, h8⟩ := h
    simp only [exS]
    exact s_rse g hcm h1 h2 h3 h5 h6 h7 (snd e Γ X Wx _ g h8).1
  · cases h
theorem mn_rse0 {kk : Nat} : MN T sm xr k Γ (.rse0 kk) := by
  intro X Wx x g hk h
  unfold chkS at h
  split at h
  · simp only [Bool.and_eq_true, decide_eq_true_eq, Bool.not_eq_true'] at h
    obtain ⟨⟨⟨⟨⟨⟨hcm, h1⟩, h2⟩, h3⟩, rfl⟩, h5⟩, h6⟩ := h
    simp only [exS]
    exact s_rse0 g hcm h1 h2 h3 h5 h6
  · cases h
theorem fnK_cm (h : fnK Γ = true) : fnK { Γ with cm := false } = true := h
theorem mn_try {e : Ex} {c i : Nat} {su : List Sx} (isu : ∀ (sm : Sm) (Γ : Cfg), ML T sm xr k Γ su) : MN T sm xr k Γ (.tryE e c i su) := by
  intro X Wx x g hk h
  unfold chkS at h
  split at h
  · simp only [Bool.and_eq_true, decide_eq_true_eq] at h
    obtain ⟨⟨⟨⟨⟨⟨⟨⟨⟨⟨⟨hcm, h0⟩, h1⟩, h2⟩, rfl⟩, h3⟩, h4⟩, h5⟩, h6⟩, h7⟩, h8⟩, h9⟩ := h
    exact s_try g hcm (by simpa using h0) h1 h2 h3 h4 h5 h6 h7 (fun W pn xe g' => (snd e Γ _ W _ g' h8).1) fun ad od oe pn kk g' => isu _ _ _ _ _ g' (fnK_cm hk) h9
  · cases h
mutual
theorem sndS : ∀ (s : Sx) (sm : Sm) (Γ : Cfg), MN T sm xr k Γ s
  | .set _ _, _, _ => mn_set
  | .setC _ _, _, _ => mn_setC
  | .asgn _ _, _, _ => mn_asgn
  | .par _ _, _, _ => mn_par
  | .exp _, _, _ => mn_exp
  | .doc, _, _ => mn_doc
  | .app _ _, _, _ => mn_app
  | .iff _ a b, sm, Γ => mn_iff (sndSs a sm Γ) (sndSs b sm Γ)
  | .iffT _ a b, sm, Γ => mn_iffT (sndSs a sm Γ) (sndSs b sm Γ)
  | .whl _ b, sm, Γ => mn_whl (sndSs b sm Γ)
  | .fors _ _ _ b, sm, Γ => mn_fors (sndSs b sm Γ)
  | .ret _, _, _ => mn_ret
  | .retL _, _, _ => mn_retL
  | .pass, _, _ => mn_pass
  | .brk, _, _ => mn_brk
  | .cnt, _, _ => mn_cnt
  | .never, _, _ => mn_never
  | .rse _ _, _, _ => mn_rse
  | .rse0 _, _, _ => mn_rse0
  | .tryE _ _ _ su, _, _ => mn_try fun sm Γ => sndSs su sm Γ
theorem sndSs : ∀ (s : List Sx) (sm : Sm) (Γ : Cfg), ML T sm xr k Γ s
  | [], _, _ => ml_nil
  | s :: ss, sm, Γ => ml_cons (sndS s sm Γ) (sndSs ss sm Γ)
end
end
end DL

namespace DL
open PySem PySem.Spec PyProof.Rows L2

structure FD where
  np : Nat
  nl : Nat
  code : List Sx
def rho (nl : Nat) (ws : List W) : Env' := ws.map some ++ List.replicate (nl - ws.length) none
def fin (n : Nat) : Out Fl → Option (Out W)
  | .ok (.nx _) S' => some (.ok (.d .none) (S'.take n))
  | .ok (.rt (.d d)) S' => some (.ok (.d d) (S'.take n))
  | .ok (.rt (.l j)) S' => if n ≤ j then (S'[j]?).map fun xs => .ok (.d (.list xs)) (S'.take n) else none
  | .ok (.rl j) S' => if n ≤ j then (S'[j]?).map fun xs => .ok (.l n) (S'.take n ++ [xs]) else none
  | .ok (.rt (.x _ _)) _ => none
  | .ok (.bk _) _ => none
  | .ok (.ct _) _ => none
  | .exc k a S' => some (.exc k a (S'.take n))
noncomputable def runF (sm : Sm) (f : FD) (ws : List W) : Mo W := fun S => if ws.length = f.np then (exSs sm f.code (rho f.nl ws) S).bind (fin S.length) else none
noncomputable def smk (gl : Nat → Option PyData) (fs : List FD) (hI : Nat → Bool) : Nat → Sm
  | 0 => ⟨gl, fun _ _ => no, none, hI⟩
  | k + 1 => ⟨gl, fun f ws => match fs[f]? with
    | some d => runF (smk gl fs hI k) d ws
    | none => no, none, hI⟩
theorem smk_glob (gl : Nat → Option PyData) (fs : List FD) (hI : Nat → Bool) (k : Nat) : (smk gl fs hI k).glob = gl := by
  cases k <;> rfl
theorem smk_exc (gl : Nat → Option PyData) (fs : List FD) (hI : Nat → Bool) (k : Nat) : (smk gl fs hI k).exc = none := by
  cases k <;> rfl
theorem smk_hasI (gl : Nat → Option PyData) (fs : List FD) (hI : Nat → Bool) (k : Nat) : (smk gl fs hI k).hasI = hI := by
  cases k <;> rfl

section
variable {K : PySem.W.Frag} {μ μ' : Mu} {H H' : Hp} {S S' : Sto}
theorem new_not (hs : RS K μ S H) (st : Stp μ H μ' H') (rs : RS K μ' S' H') {j : Nat} {a : Addr} (hj : S.length ≤ j) (ea : μ'.l[j]? = some a) : a ∉ μ.l := fun z => by
  obtain ⟨i, hi⟩ := List.getElem?_of_mem z
  obtain ⟨t, et⟩ := st.pre
  have hil := (List.getElem?_eq_some_iff.mp hi).1
  have e2 : μ'.l[i]? = some a := by rw [et, List.getElem?_append_left hil]; exact hi
  obtain ⟨q1, q2⟩ := List.getElem?_eq_some_iff.mp ea
  obtain ⟨q3, q4⟩ := List.getElem?_eq_some_iff.mp e2
  have := (List.getElem_inj rs.nd).mp (q2.trans q4.symm)
  have := hs.len
  omega
theorem trunc_l (hs : RS K μ S H) (st : Stp μ H μ' H') (rs : RS K μ' S' H') {j : Nat} {a : Addr} {xs : List PyData} (hj : S.length ≤ j) (ea : μ'.l[j]? = some a) (ex : S'[j]? = some xs) :
    Stp μ H ⟨μ.l ++ [a], μ.h⟩ H' ∧ RS K ⟨μ.l ++ [a], μ.h⟩ (S'.take S.length ++ [xs]) H' ∧ RW K ⟨μ.l ++ [a], μ.h⟩ H' (.l S.length) (.ref a) := by
  obtain ⟨s1, s2, s3⟩ := trunc hs st rs
  obtain ⟨t, et⟩ := st.pre
  have na := new_not hs st rs hj ea
  have am : a ∈ μ'.l := List.mem_of_getElem? ea
  have g : Gen K μ' H' ⟨μ.l ++ [a], μ.h⟩ H' := gen_less fun b h => by
    rcases h with q | q
    · rcases List.mem_append.mp q with z | z
      · exact .inl (by rw [et]; exact List.mem_append_left _ z)
      · obtain rfl : b = a := by simpa using z
        exact .inl am
    · exact .inr (st.hsub b q)
  have hl : (S'.take S.length).length = μ.l.length := s2.len.symm
  obtain ⟨us, h1, h2⟩ := rs.at_ j a xs ea ex
  refine ⟨⟨⟨[a], rfl⟩, st.keep, fun b h => ?_, st.old, fun _ h => .inl h, fun _ h => h⟩, ⟨by simp [hs.len, ← s2.len], List.nodup_append.mpr ⟨hs.nd, by simp, fun b hb c hc => ?_⟩, fun i b ys e1 e2 => ?_, fun b hb => ?_⟩, a, ?_, rfl⟩
  · rcases List.mem_append.mp h with z | z
    · exact .inl z
    · obtain rfl : b = a := by simpa using z
      rcases st.new b am with q | q
      · exact .inl q
      · exact .inr q
  · obtain rfl : c = a := by simpa using hc
    rintro rfl
    exact na hb
  · by_cases hi : i < μ.l.length
    · have e1 : (μ.l ++ [a])[i]? = some b := e1
      rw [List.getElem?_append_left hi] at e1
      rw [List.getElem?_append_left (by rw [hl]; exact hi)] at e2
      have hi2 : i < S.length := by rw [← hs.len]; exact hi
      rw [List.getElem?_take_of_lt hi2] at e2
      obtain ⟨vs, a1, a2⟩ := rs.at_ i b ys (by rw [et, List.getElem?_append_left hi]; exact e1) e2
      exact ⟨vs, a1, RDs.gen g _ _ a2⟩
    · have e1 : (μ.l ++ [a])[i]? = some b := e1
      have hi3 : i = μ.l.length := by
        have := (List.getElem?_eq_some_iff.mp e1).1
        simp at this
        omega
      subst hi3
      rw [← hl] at e2
      simp at e1 e2
      subst e1 e2
      exact ⟨us, h1, RDs.gen g _ _ h2⟩
  · obtain ⟨q1, q2⟩ := rs.hid b (st.hsub b hb)
    refine ⟨fun z => ?_, q2⟩
    rcases List.mem_append.mp z with y | y
    · exact q1 (by rw [et]; exact List.mem_append_left _ y)
    · obtain rfl : b = a := by simpa using y
      exact q1 am
  · show (μ.l ++ [a])[S.length]? = some a
    rw [← hs.len]; simp
theorem rho_ok {N : List Str} {ws : List W} {vs : List V} (r : RWs K μ H ws vs) : RE K μ H (rho N.length ws) (L2.start N vs) := by
  have hl := RWs.length r
  refine ⟨by unfold rho L2.start; simp [hl], fun i w e => ?_⟩
  unfold rho at e
  have hi : i < ws.length := by
    by_cases hi : i < ws.length
    · exact hi
    · rw [List.getElem?_append_right (by simpa using hi), List.getElem?_replicate] at e
      split at e <;> cases e
  rw [List.getElem?_append_left (by simpa using hi), List.getElem?_map] at e
  cases q : ws[i]? with
  | none => rw [q] at e; cases e
  | some u =>
    rw [q] at e
    cases e
    obtain ⟨v, h1, h2⟩ := RWs.get r q
    refine ⟨v, ?_, h2⟩
    unfold L2.start
    rw [List.getElem?_append_left (by simp; omega), List.getElem?_map, h1]
    rfl
end
def XOk (K : PySem.W.Frag) (xr : XRel) : Prop := ∀ k a μ μ' H c d, Gen K μ' H μ H → xr k a μ' H c d → xr k a μ H c d
theorem xrOf_ok {K : PySem.W.Frag} {nc : Nat} {hasI : Nat → Bool} {cl : Nat → Addr} : XOk K (xrOf K nc hasI cl) := fun k a μ μ' H c d g h => by
  obtain ⟨h1, h2, h3, h4, h5⟩ := h
  refine ⟨h1, h2, h3, fun z => ?_, h5⟩
  obtain ⟨dd, u, e1, e2, e3⟩ := h4 z
  exact ⟨dd, u, e1, e2, RD.gen g _ _ e3⟩
structure Fact (P : Program) (w : World) (K : PySem.W.Frag) (mg : Str → Option Value) (T : Tb) (fs : List FD) (f : Nat) : Prop where
  ex : ∃ a fd x qual params body scope ps N code, mg (T.fname f) = some (.ref a) ∧ FunD K x qual params body scope [] [] a fd ∧ FnScope N ps scope ∧ fs[f]? = some ⟨ps.length, N.length, code⟩ ∧
    fnK ⟨N, scope, none, true⟩ = true ∧ chkSs T ⟨N, scope, none, true⟩ code body = true ∧ Binds K fd ps [] ∧ ∀ n ks pm, (n, ks, pm) ∈ T.kws f → KwTo K fd ps n ks pm
structure Glo (P : Program) (w : World) (K : PySem.W.Frag) (mg : Str → Option Value) (T : Tb) (gl : Nat → Option PyData) (cl : Nat → Addr) : Prop where
  glob : ∀ g x, gl g = some x → ∃ u v, mg (T.gname g) = some u ∧ RelV v u ∧ ∀ (μ : Mu) H, (∀ a ∈ μ.l, ∃ vs, H a = some (.lst vs)) → RD K μ H x v
  blt : ∀ x ∈ bltNames, mg x = none
  math : ∀ b ∈ T.maths, isMath b = true → mg (nameB b) = some (valB b)
  sys : SysK K
  cls : ClsFact P w K mg T.nc T.cname T.hasI cl
section
variable {P : Program} {w : World} {K : PySem.W.Frag} {mg : Str → Option Value} {base : Heap} {T : Tb} {fs : List FD} {gl : Nat → Option PyData} {xr : XRel} {cl : Nat → Addr}
theorem body_ok {d : FD} {sm : Sm} {ps N : List Str} {vs : List V} {H : Hp} {Q : VK} {E : XK} (hx : XOk K xr) (hn : d.nl = N.length) (h : spD K xr (runF sm d) vs H Q E) :
    tS K xr (fun cls dd _ H => E cls dd H) (exSs sm d.code) { nx := fun _ H' => Q .non H', rt := Q } (L2.start N vs) H := by
  obtain ⟨μ, S, ws, r, hs, hw, hm, q⟩ := h
  unfold runF at hm
  by_cases hl : ws.length = d.np
  · rw [if_pos hl] at hm
    cases e : exSs sm d.code (rho d.nl ws) S with
    | none => rw [e] at hm; cases hm
    | some o =>
      rw [e] at hm
      have hm : fin S.length o = some r := hm
      refine ⟨μ, rho N.length ws, S, o, hs, rho_ok hw, by rw [← hn]; exact e, ?_⟩
      cases o with
      | exc k a S' =>
        cases hm
        intro μ' H' c dd σ' st rs x
        obtain ⟨s1, s2, s3⟩ := trunc hs st rs
        exact q μ H' c dd s1 s2 (hx _ _ _ _ _ _ _ s3 x)
      | ok f S' =>
        cases f with
        | nx ρ' =>
          cases hm
          intro μ' H' σ' st rs re
          obtain ⟨s1, s2, s3⟩ := trunc hs st rs
          exact q μ H' _ s1 s2 .non
        | bk ρ' => cases hm
        | ct ρ' => cases hm
        | rl j =>
          simp only [fin] at hm
          by_cases hj : S.length ≤ j
          · rw [if_pos hj] at hm
            intro μ' H' v st rs rw_
            obtain ⟨s1, s2, s3⟩ := trunc hs st rs
            obtain ⟨a, ea, rfl⟩ := rw_
            cases ex : S'[j]? with
            | none => rw [ex] at hm; cases hm
            | some xs =>
              rw [ex] at hm
              cases hm
              obtain ⟨us, h1, h2⟩ := rs.at_ j a xs ea ex
              obtain ⟨z1, z2, z3⟩ := trunc_l hs st rs hj ea ex
              exact q _ H' _ z1 z2 z3
          · rw [if_neg hj] at hm; cases hm
        | rt u =>
          cases u with
          | d x =>
            cases hm
            intro μ' H' v st rs rw_
            obtain ⟨s1, s2, s3⟩ := trunc hs st rs
            exact q μ H' _ s1 s2 (RD.gen s3 _ _ rw_)
          | x a q => cases hm
          | l j =>
            simp only [fin] at hm
            by_cases hj : S.length ≤ j
            · rw [if_pos hj] at hm
              intro μ' H' v st rs rw_
              obtain ⟨s1, s2, s3⟩ := trunc hs st rs
              obtain ⟨a, ea, rfl⟩ := rw_
              cases ex : S'[j]? with
              | none => rw [ex] at hm; cases hm
              | some xs =>
                rw [ex] at hm
                cases hm
                obtain ⟨us, h1, h2⟩ := rs.at_ j a xs ea ex
                exact q μ H' _ s1 s2 (.lst (.inl h1) (new_not hs st rs hj ea) (fun z => (rs.hid a (st.hsub a z)).1 (List.mem_of_getElem? ea)) (RDs.gen s3 _ _ h2))
            · rw [if_neg hj] at hm; cases hm
  · rw [if_neg hl] at hm; cases hm
theorem gd_cx {k : Nat} {N ps : List Str} {qual : Str} {scope : Scope} {f : Addr} {cd : Value} {A : Around} {outer : List Env} {s : Shared} {H : Hp} {E : XK} {sm : Sm} (S : FnScope N ps scope) (hxr : xr = xrOf K T.nc T.hasI cl) (h2k : 2 ≤ k) (G : Glo P w K mg T gl cl) (hr : Room (k + 1) A) (hgd : A.guards = some []) (hsm : sm.glob = gl) (hse : sm.exc = none) (hsi : sm.hasI = T.hasI)
    (IH : ∀ f, f < T.nf → ∃ a fd ps, mg (T.fname f) = some (.ref a) ∧ PySem.W.keepIn K (.ref a) = true ∧ FnG P w K mg base (L2.CX P w) k a fd ps (spD K xr (sm.call f)) ∧ Binds K fd ps [] ∧ ∀ n ks pm, (n, ks, pm) ∈ T.kws f → KwTo K fd ps n ks pm) :
    Gd T sm xr k ⟨N, scope, none, true⟩ (cxOf (L2.CX P w) P w K mg base N qual scope f cd A outer s H E) (fun cls dd _ H => E cls dd H) where
  N := rfl
  nd := S.nd
  sc := rfl
  fn := fun _ => rfl
  calm := fun _ => rfl
  room := fun _ => hr.deeper _
  grd := hgd
  un := by
    have := (hr.deeper (envOfC qual scope s.heap.objs.size f cd)).un
    show (A.deeper (envOfC qual scope s.heap.objs.size f cd)).units + 65 < cLine
    omega
  tk := takes_of (X := cxOf (L2.CX P w) P w K mg base N qual scope f cd A outer s H E) rfl rfl rfl rfl
  po := passes_of (X := cxOf (L2.CX P w) P w K mg base N qual scope f cd A outer s H E) rfl
  glob := fun g x e => G.glob g x (by rw [← hsm]; exact e)
  call := IH
  blt := G.blt
  math := G.math
  sys := G.sys
  k2 := h2k
  top := fun _ => ⟨rfl, rfl⟩
  hI := hsi
  noe := fun _ => hse
  cls := ⟨cl, hxr, G.cls, fun a d k e => by
    rw [hse] at e
    cases e⟩
theorem fn_G {k f : Nat} {sm : Sm} {a : Addr} {fd : FuncData} {x qual : Str} {params : Arguments} {body : List Stmt} {scope : Scope} {ps N : List Str} {code : List Sx} (F : FunD K x qual params body scope [] [] a fd) (hS : FnScope N ps scope)
    (hk : fnK ⟨N, scope, none, true⟩ = true) (hc : chkSs T ⟨N, scope, none, true⟩ code body = true) (hx : XOk K xr) (hxr : xr = xrOf K T.nc T.hasI cl) (h2k : 2 ≤ k) (G : Glo P w K mg T gl cl) (hsm : sm.glob = gl) (hse : sm.exc = none) (hsi : sm.hasI = T.hasI)
    (IH : ∀ f, f < T.nf → ∃ a fd ps, mg (T.fname f) = some (.ref a) ∧ PySem.W.keepIn K (.ref a) = true ∧ FnG P w K mg base (L2.CX P w) k a fd ps (spD K xr (sm.call f)) ∧ Binds K fd ps [] ∧ ∀ n ks pm, (n, ks, pm) ∈ T.kws f → KwTo K fd ps n ks pm) :
    FnG P w K mg base (L2.CX P w) (k + 1) a fd ps (spD K xr (runF sm ⟨ps.length, N.length, code⟩)) := by
  have hlen : ∀ vs H Q E, spD K xr (runF sm ⟨ps.length, N.length, code⟩) vs H Q E → vs.length = ps.length := fun vs H Q E h => by
    obtain ⟨μ, S, ws, r, hs, hw, hm, q⟩ := h
    unfold runF at hm
    by_cases hl : ws.length = ps.length
    · rw [← RWs.length hw]; exact hl
    · rw [if_neg hl] at hm; cases hm
  obtain ⟨oc, od, dV, kV, doc, pm, an, cdv, ct, osl, rfl, lk, hcd, _, _⟩ := F.ex
  refine ⟨hlen, fun A outer s H args us vs Q E hr hgd e0 hb r hsp => ?_⟩
  have hin : K.In s.heap := e0.mod.kin.keeps fun b o e => (e0.bs b o e).1
  have hlm : s.heap.NoLimit := e0.mod.nolimit.keeps fun b o e => (e0.bs b o e).1
  have hkd : ∀ y ∈ ps.zip us, scope.names.lookup y.1 = some .local ∨ (scope.names.lookup y.1 = some .cell ∧ ((cellsFrom (s.heap.objs.size + 1) scope.names []).lookup y.1).isSome = true) := by
    rintro ⟨n, v⟩ hy
    rcases hS.par n (List.of_mem_zip hy).1 with q | q
    · exact .inl q
    · exact .inr ⟨q, PySem.W.cellsFrom_some _ _ _ (.inl q)⟩
  refine codeAny_call_function hr.depth (hin _ _ lk) rfl hS.co hS.gen rfl (PySem.W.codeRec_of hin hcd) (hb _ _ _ _ ?_)
  refine wpAny_newFunctionEnv_cells hS.kind hkd fun env he s1 xx => ?_
  subst he
  refine ⟨hlm.keeps xx.toInCall.keep, codeAny_func ?_⟩
  have g : Gd T sm xr k ⟨N, scope, none, true⟩ (cxOf (L2.CX P w) P w K mg base N qual scope a cdv A outer s H E) (fun cls dd _ H => E cls dd H) := gd_cx hS hxr h2k G hr hgd hsm hse hsi IH
  have hbody := sndSs code sm _ _ _ body g hk hc
  have I := inv_start (CX := L2.CX P w) (P := P) (qual := qual) (f := a) (cd := cdv) (E := E) hS hr.hd e0 (hlen _ _ _ _ hsp) r xx
  refine wpAny_mono (hbody.run [] s1 (L2.start N vs) H _ I (body_ok (d := ⟨ps.length, N.length, code⟩) (ps := ps) hx rfl hsp)) (fun fl s' hs => ?_) fun e s' hs => hs
  cases fl with
  | ret u =>
    obtain ⟨v, σ', H', J, rv, q⟩ := hs
    exact ⟨v, H', J.os, J.bare, J.base, J.hok, rv, q⟩
  | next =>
    obtain ⟨σ', H', J, q⟩ := hs
    exact ⟨V.non, H', J.os, J.bare, J.base, J.hok, rfl, q⟩
  | brk =>
    obtain ⟨_, _, _, q⟩ := hs
    exact False.elim q
  | cont =>
    obtain ⟨_, _, _, q⟩ := hs
    exact False.elim q
theorem fns (hx : XOk K xr) (hxr : xr = xrOf K T.nc T.hasI cl) (G : Glo P w K mg T gl cl) (hf : ∀ f, f < T.nf → Fact P w K mg T fs f) : ∀ k f, f < T.nf →
    ∃ a fd ps, mg (T.fname f) = some (.ref a) ∧ PySem.W.keepIn K (.ref a) = true ∧ FnG P w K mg base (L2.CX P w) (k + 2) a fd ps (spD K xr ((smk gl fs T.hasI k).call f)) ∧ Binds K fd ps [] ∧ ∀ n ks pm, (n, ks, pm) ∈ T.kws f → KwTo K fd ps n ks pm
  | 0, f, h => by
    obtain ⟨a, fd, x, qual, params, body, scope, ps, N, code, h1, h2, h3, h4, h5, h6, h7, h8⟩ := (hf f h).ex
    have no_ : ∀ vs H Q E, ¬ spD K xr ((smk gl fs T.hasI 0).call f) vs H Q E := fun vs H Q E z => by
      obtain ⟨μ, S, ws, r, hs, hw, hm, q⟩ := z
      cases hm
    exact ⟨a, fd, ps, h1, h2.kp, ⟨fun vs H Q E z => absurd z (no_ _ _ _ _), fun A outer s H args us vs Q E hr hgd e0 hb r hsp => absurd hsp (no_ _ _ _ _)⟩, h7, h8⟩
  | k + 1, f, h => by
    obtain ⟨a, fd, x, qual, params, body, scope, ps, N, code, h1, h2, h3, h4, h5, h6, h7, h8⟩ := (hf f h).ex
    have e : (smk gl fs T.hasI (k + 1)).call f = runF (smk gl fs T.hasI k) ⟨ps.length, N.length, code⟩ := by
      funext ws
      show (match fs[f]? with
        | some d => runF (smk gl fs T.hasI k) d ws
        | none => no) = _
      rw [h4]
    rw [e]
    exact ⟨a, fd, ps, h1, h2.kp, fn_G (f := f) h2 h3 h5 h6 hx hxr (by omega) G (smk_glob gl fs _ k) (smk_exc gl fs _ k) (smk_hasI gl fs _ k) (fns hx hxr G hf k), h7, h8⟩
end
end DL

namespace DL
open PySem PySem.Spec PyProof.Rows L2

theorem noEsc {P : Program} {w : World} {H : Hp} {s s' : Shared} {e : Value} (h : L2.CX P w [] H s (fun _ _ _ => False) e s') : False := by
  obtain ⟨_, _, _, _, _, _, _, _, _, _, _, _, z⟩ := h
  exact z
def scH (a : Addr) (o : Obj) (vs : List V) : Hp := fun b => if b = a then some (.frz o (.lst vs)) else none
theorem scH_none {a b : Addr} {o : Obj} {vs : List V} (h : b ≠ a) : scH a o vs b = none := if_neg h
theorem scH_at {a : Addr} {o : Obj} {vs : List V} : scH a o vs a = some (.frz o (.lst vs)) := if_pos rfl
theorem scH_inv {a b : Addr} {o : Obj} {vs : List V} {u : HO} (h : scH a o vs b = some u) : b = a ∧ u = .frz o (.lst vs) := by
  by_cases e : b = a
  · subst e
    rw [scH_at] at h
    exact ⟨rfl, (Option.some.inj h).symm⟩
  · rw [scH_none e] at h; cases h
theorem endG {P : Program} {w : World} {K : PySem.W.Frag} {mg mb : Str → Option Value} {k : Nat} {fa a : Addr} {fd : FuncData} {x : Str} {sp : Sp} {s1 : Shared} {vals : List Value} {ns : List Int}
    (hK : K.In s1.heap) (hns : s1.heap.Ns mainGlobals mg) (hmb : s1.heap.Ns builtinsNs mb) (hbb : ∀ x : Str, x ≠ "__name__" → mb x = bootBuiltins x) (hlim : s1.heap.NoLimit) (hgen : s1.gens = #[])
    (ha : s1.heap.get? a = some { cls := .type "list", data := .seq vals.toArray }) (hi : IntsAre vals ns) (hl : ns.length ≤ sizeLine) (hr : Room k callerA) (hno : ∀ b o, K.lookup b = some o → o.cls ≠ .type "list")
    (F : ∀ base : Heap, K.In base → base.Ns mainGlobals mg → FnG P w K mg base (L2.CX P w) k fa fd [x] sp) (hbind : ∀ (s : Shared) (u : Value), BindsTo s fd ⟨[u], []⟩ [(x, u)])
    (hsp : ∀ (H : Hp) (o : Obj), (∀ b, b ≠ a → H b = none) → H a = some (.frz o (.lst (ns.map V.int))) → sp [.ref a] H (fun v _ => v = .bl true) fun _ _ _ => False) :
    codeAny (model P w) callerA (.call (.ref fa) ⟨[.ref a], []⟩) (fun r s' => r = .ok (.ret (.bool true)) ∧ OldK s1.heap s'.heap ∧ s'.os = s1.os ∧ AllBare s'.gens) s1 := by
  have rv := vals_ints hi
  have hKa : K.lookup a = none := by
    cases e : K.lookup a with
    | none => rfl
    | some o =>
      have q := hK a o e
      rw [ha] at q
      cases q
      exact absurd rfl (hno a _ e)
  let O : Obj := { cls := .type "list", data := .seq vals.toArray }
  let H : Hp := scH a O (ns.map V.int)
  have nb : ∀ {b : Addr} {o : Obj}, s1.heap.get? b = some o → b ≠ a → (hidT s1.heap H).get? b = some o := fun e n => hidT_get e (scH_none n)
  have ndict : ∀ {b : Addr} {o : Obj} {es : Array DictEntry} {ep : Nat}, s1.heap.get? b = some o → o.data = .dict es ep → b ≠ a := by
    rintro b o es ep e d rfl
    rw [ha] at e
    cases e
    cases d
  have nsT : ∀ {b : Addr} {m : Str → Option Value}, s1.heap.Ns b m → (hidT s1.heap H).Ns b m := by
    rintro b m ⟨o, es, ep, e, d, r⟩
    exact ⟨o, es, ep, nb e (ndict e d), d, r⟩
  have hKb : K.In (hidT s1.heap H) := fun b o e => nb (hK b o e) (by rintro rfl; rw [hKa] at e; cases e)
  have hlim' : (hidT s1.heap H).NoLimit := by
    obtain ⟨mc, h1, h2⟩ := hlim
    exact ⟨mc, nsT h1, h2⟩
  have hM : Mod K mg (hidT s1.heap H) := ⟨hKb, nsT hns, ⟨mb, nsT hmb, hbb⟩, hlim'⟩
  have hok : HOk P w H s1.heap := by
    intro b u z
    obtain ⟨rfl, rfl⟩ := scH_inv z
    exact ⟨ha, by rw [List.length_map]; exact hl, vals, _, rv, ha⟩
  have e0 : Env0 P w K mg (hidT s1.heap H) callerA [] s1 H :=
    ⟨rfl, hM, fun b o e => of_hidT e, Nat.le_of_eq (hidT_size _ _), trivial, (fun b hb => by
      have hb : b ∈ ([] : List Addr) := hb
      simp at hb), hok, .of_eq hgen⟩
  have go := (F _ hKb (nsT hns)).run callerA [] s1 H ⟨[.ref a], []⟩ [.ref a] [.ref a] (fun v _ => v = .bl true) (fun _ _ _ => False) hr rfl e0 (hbind s1 (.ref a)) (.cons rfl .nil) (hsp H O (fun b n => scH_none n) scH_at)
  refine codeAny_mono go fun r s' h => ?_
  cases r with
  | error e => exact (noEsc h).elim
  | ok fl =>
    cases fl <;> first | (exact False.elim h) | skip
    obtain ⟨v, H', os, bare, un, hok', r', q⟩ := h
    have q : v = .bl true := q
    subst q
    have r' : _ = Value.bool true := r'
    subst r'
    refine ⟨rfl, OldK.of_keep fun b o e => ?_, os, bare⟩
    by_cases hb : b = a
    · subst hb
      have z : H b = some (.frz O (.lst (ns.map V.int))) := scH_at
      have z2 := un.frzs b O _ z
      obtain ⟨e1, _⟩ := hok b _ z
      obtain ⟨e2, _⟩ := hok' b _ z2
      rw [e] at e1; cases e1
      exact e2
    · exact un.keep b o e (scH_none hb) (fun z => by cases z) (by simp)
theorem spD_script {K : PySem.W.Frag} {xr : XRel} {m : List W → Mo W} {H : Hp} {a : Addr} {o : Obj} {ns : List Int} (ho : H a = some (.frz o (.lst (ns.map V.int)))) (h : m [.d (.list (ns.map PyData.int))] [] = some (.ok (.d (.bool true)) [])) :
    spD K xr m [.ref a] H (fun v _ => v = .bl true) fun _ _ _ => False := by
  have ri : ∀ l : List Int, RDs K ⟨[], []⟩ H (l.map PyData.int) (l.map V.int) := by
    intro l
    induction l with
    | nil => exact .nil
    | cons i l ih => exact .cons (.int i) ih
  refine ⟨⟨[], []⟩, [], [.d (.list (ns.map PyData.int))], _, ⟨rfl, .nil, fun j a xs e => by simp at e, fun a h => by cases h⟩, .cons (.lst (.inr ⟨o, ho⟩) (by simp) (by simp) (ri ns)) .nil, h, ?_⟩
  intro μ' H' v st rs rd
  have rd : RD K μ' H' (.bool true) v := rd
  cases rd
  rfl
theorem walkG {l : PySem.W.OpenLaw} {n k : Nat} {q : Program} {loose : List Str} {XP : (Str → Option Value) → Heap → Prop} {YP : World → Heap → Prop} {d : DefRec} {x : Str}
    (hn : l.most = some n) (hn2 : n ≤ sizeLine) (hdf : d.params.defaults = []) (hr : Room k callerA)
    (F : ∀ (w : World) (mg : Str → Option Value) (fa : Addr) (h : Heap), YP w h → h.Ns mainGlobals mg → mg d.name = some (.ref fa) →
      ∃ (K : PySem.W.Frag) (fd : FuncData) (xr : XRel) (m : List W → Mo W), K.In h ∧ (∀ b o, K.lookup b = some o → o.cls ≠ .type "list") ∧ (∀ (s : Shared) (u : Value), BindsTo s fd ⟨[u], []⟩ [(x, u)]) ∧
        (∀ ns : List Int, ns.length ≤ n → (∀ z ∈ ns, Builtin.Int.intBits z ≤ 1048576) → m [.d (.list (ns.map PyData.int))] [] = some (.ok (.d (.bool true)) [])) ∧
        ∀ base : Heap, K.In base → base.Ns mainGlobals mg → FnG l.prog w K mg base (L2.CX l.prog w) k fa fd [x] (spD K xr m)) :
    PySem.W.WalkO q loose XP YP l.row.toRowW d [] (fun f vs => PySem.call f vs) := by
  refine Att.attach_callB hn hdf fun w s0 s1 mg mb fa o pm cd doc a vs ns G Y ho hd hcd hmg hobj hints hlen hbits hg => ?_
  obtain ⟨K, fd, xr, m, hK, hno, hb, hm, hF⟩ := F w mg fa _ Y G.T.g hmg
  exact endG hK G.T.g G.T.b G.T.builtins G.T.nolimit hg hobj hints (Nat.le_trans hlen hn2) hr hno hF hb fun H o _ hS => spD_script hS (hm ns hlen hbits)

mutual
def gchk (K : PySem.W.Frag) : PyData → Value → Bool
  | .none, u => decide (u = .none)
  | .bool b, u => decide (u = .bool b)
  | .int i, u => match u with
    | .int j _ => decide (j = i)
    | _ => false
  | .str x, u => match u with
    | .str y _ => decide (y = x)
    | _ => false
  | .tuple ds, u => match u with
    | .ref a => (match K.lookup a with
      | some o => decide (o.cls = .type "tuple") && (match o.data with
        | .seq its _ => decide (its.size ≤ 100) && gchks K ds its.toList
        | _ => false)
      | none => false)
    | _ => false
  | _, _ => false
def gchks (K : PySem.W.Frag) : List PyData → List Value → Bool
  | [], us => us.isEmpty
  | d :: ds, us => match us with
    | u :: us => gchk K d u && gchks K ds us
    | [] => false
end
mutual
theorem gchk_ok {K : PySem.W.Frag} : ∀ (d : PyData) (u : Value), gchk K d u = true → ∃ v, RelV v u ∧ ∀ (μ : Mu) (H : Hp), RD K μ H d v
  | .none, u, h => by
    unfold gchk at h
    obtain rfl := of_decide_eq_true h
    exact ⟨.non, rfl, fun _ _ => .non⟩
  | .bool b, u, h => by
    unfold gchk at h
    obtain rfl := of_decide_eq_true h
    exact ⟨.bl b, rfl, fun _ _ => .bl b⟩
  | .int i, u, h => by
    unfold gchk at h
    split at h
    · obtain rfl := of_decide_eq_true h
      exact ⟨.int _, ⟨_, rfl⟩, fun _ _ => .int _⟩
    · cases h
  | .str i, u, h => by
    unfold gchk at h
    split at h
    · obtain rfl := of_decide_eq_true h
      exact ⟨.str _, ⟨_, rfl⟩, fun _ _ => .str _⟩
    · cases h
  | .tuple ds, u, h => by
    unfold gchk at h
    split at h <;> first | (cases h; done) | skip
    rename_i a
    split at h <;> first | (cases h; done) | skip
    rename_i o eo
    rw [Bool.and_eq_true, decide_eq_true_eq] at h
    obtain ⟨h1, h2⟩ := h
    split at h2 <;> first | (cases h2; done) | skip
    rename_i its m em
    rw [Bool.and_eq_true, decide_eq_true_eq] at h2
    obtain ⟨vs, r1, r2⟩ := gchks_ok ds its.toList h2.2
    exact ⟨.ref a, rfl, fun μ H => .tup (.inr ⟨o, its, m, eo, h1, em, by rw [sizeLine_eq]; omega, r1⟩) (r2 μ H)⟩
  | .list _, u, h => by simp [gchk] at h
  | .dict _, u, h => by simp [gchk] at h
theorem gchks_ok {K : PySem.W.Frag} : ∀ (d : List PyData) (u : List Value), gchks K d u = true → ∃ v, Vals v u ∧ ∀ (μ : Mu) (H : Hp), RDs K μ H d v
  | [], us, h => by
    unfold gchks at h
    cases us with
    | nil => exact ⟨[], .nil, fun _ _ => .nil⟩
    | cons => cases h
  | d :: ds, us, h => by
    unfold gchks at h
    cases us with
    | nil => cases h
    | cons u us =>
      simp only [Bool.and_eq_true] at h
      obtain ⟨v, r1, r2⟩ := gchk_ok d u h.1
      obtain ⟨vs, r3, r4⟩ := gchks_ok ds us h.2
      exact ⟨v :: vs, .cons r1 r3, fun μ H => .cons (r2 μ H) (r4 μ H)⟩
end
def clA (K : PySem.W.Frag) (T : Tb) (c : Nat) : Addr := He.ga K (T.cname c)
def isCB (K : PySem.W.Frag) (D : Addr) : Bool := ((PySem.W.clsIn K D).isSome && He.eqO (PySem.W.findIn K (.ref D) "__getattribute__") (some (some (.builtin "BaseException.__getattribute__")))) &&
  (He.eqO (PySem.W.findIn K (.ref D) "__getattr__") (some none) && (decide (PySem.W.subIn K (.ref D) (.type "BaseException") = some true) && (He.eqO (PySem.W.findIn K (.ref D) "__class__") (some (some (.builtin "object.__class__"))) &&
  (decide (PySem.W.mroIn K D (.type "object") = some true) && (PySem.W.hasDictIn K D && (He.eqO (PySem.W.findIn K (.ref D) "given") (some none) && (decide (PySem.W.typeIn K (.ref D) = some (.type "type")) && PySem.W.keepIn K (.ref D))))))))
theorem isCB_ok {K : PySem.W.Frag} {D : Addr} (h : isCB K D = true) : IsC K D := by
  unfold isCB at h
  simp only [Bool.and_eq_true, decide_eq_true_eq] at h
  obtain ⟨⟨h1, h2⟩, h3, h4, h5, h6, h7, h8, h9, h10⟩ := h
  exact ⟨h1, He.eqO_ok h2, He.eqO_ok h3, h4, He.eqO_ok h5, h6, h7, He.eqO_ok h8, h9, h10⟩
def oexB (K : PySem.W.Frag) (D : Addr) : Bool := (match K.lookup D with
  | some ⟨.type "type", _, .cls cd, sl⟩ => (match cd.mro, sl.toList with
    | .ref C' :: bm, [_, _, _, _, some (.builtin n), _] => C' == D && n == "ValueError.__new__" && !cd.hasDel && cd.hasDict && PySem.HandSPX.refsVE bm
    | _, _ => false)
  | _ => false) && (He.eqO (PySem.W.findIn K (.ref D) "__setattr__") (some (some (.builtin "object.__setattr__"))) && (He.eqO (PySem.W.findIn K (.ref D) "__init__") (some (some (.ref (He.ma K D "__init__")))) && decide (PySem.W.typeIn K (.ref (He.ma K D "__init__")) = some (.type "function"))))
theorem oexB_ok {K : PySem.W.Frag} {D : Addr} (h : oexB K D = true) (I : IsC K D) : OexC K D ∧ PySem.W.findIn K (.ref D) "__init__" = some (some (.ref (He.ma K D "__init__"))) ∧ PySem.W.typeIn K (.ref (He.ma K D "__init__")) = some (.type "function") := by
  unfold oexB at h
  simp only [Bool.and_eq_true, decide_eq_true_eq] at h
  obtain ⟨q, h2, h3, h4⟩ := h
  refine ⟨⟨?_, He.eqO_ok h2, I.sb, I.ty, I.kp⟩, He.eqO_ok h3, h4⟩
  split at q
  · rename_i dd cd sl ho
    split at q
    · rename_i C' bm k0 k1 k2 k3 n k5 hm hs
      simp only [Bool.and_eq_true, beq_iff_eq, Bool.not_eq_true'] at q
      obtain ⟨⟨⟨⟨rfl, rfl⟩, hdel⟩, hdi⟩, hbm⟩ := q
      obtain ⟨nm, bs, mro, ns, qn, hd, sn, sub, ab, col, del⟩ := cd
      dsimp only at hm hdel hdi
      subst hm hdel hdi
      have hsl : sl = #[k0, k1, k2, k3, some (.builtin "ValueError.__new__"), k5] := by
        obtain ⟨l⟩ := sl
        simp only at hs
        rw [hs]
      subst hsl
      exact ⟨nm, qn, ns, bs, bm, sn, sub, ab, col, dd, k0, k1, k2, k3, k5, ho, hbm⟩
    · cases q
  · cases q
def clB1 (K : PySem.W.Frag) (T : Tb) (k : Nat) : Bool := isCB K (clA K T k) && ((List.range T.nc).all (fun c => decide (PySem.W.kitOne K (.ref (clA K T k)) (clsVal (clA K T) c) = some (isx k c)) && (decide (c = 0) || decide (PySem.W.exmOne K (.ref (clA K T k)) (.ref (clA K T c)) = some (isx k c)))) &&
  (if T.hasI k = true then oexB K (clA K T k) else PySem.W.excIn K (clA K T k) PySem.HandSPX.veTail "ValueError.__new__"))
def clsB (K : PySem.W.Frag) (T : Tb) : Bool := He.eqO (PySem.W.nsIn K mainGlobals "ValueError") (some none) && ((List.range T.nc).all (fun c => decide (c = 0) || He.eqO (PySem.W.nsIn K mainGlobals (T.cname c)) (some (some (.ref (clA K T c))))) &&
  ((List.range T.nc).all (fun k => decide (k ≤ 1) || clB1 K T k) && (decide (T.nc ≤ 2) || (decide (PySem.W.specialIn K (.builtin "object.__class__") "__get__" = some (some (.builtin "getset_descriptor.__get__"))) && decide (PySem.W.takesIn K (.builtin "object.__class__") = some true)))))
def sysB (K : PySem.W.Frag) : Bool := match K.lookup sysModules with
  | some o => !decide (o.cls = .type "list")
  | none => false
theorem sysB_ok {K : PySem.W.Frag} (h : sysB K = true) : SysK K := by
  unfold sysB at h
  split at h
  · rename_i o e
    exact ⟨o, e, by simpa using h⟩
  · cases h
def okX0 (T : Tb) (gls : List PyData) (K : PySem.W.Frag) : Bool :=
  K.all (fun p => !decide (p.2.cls = .type "list")) && bltNames.all (fun x => He.eqO (PySem.W.nsIn K mainGlobals x) (some none)) &&
  T.maths.all (fun b => He.eqO (PySem.W.nsIn K mainGlobals (nameB b)) (some (some (valB b)))) &&
  gls.zipIdx.all (fun p => match PySem.W.nsIn K mainGlobals (T.gname p.2) with
    | some (some u) => gchk K p.1 u
    | _ => false) &&
  (List.range T.nf).all (fun f => He.eqO (PySem.W.nsIn K mainGlobals (T.fname f)) (some (some (.ref (He.ga K (T.fname f))))))
def okX (T : Tb) (gls : List PyData) (K : PySem.W.Frag) : Bool := okX0 T gls K && (sysB K && clsB K T)
theorem okX_0 {T : Tb} {gls : List PyData} {K : PySem.W.Frag} (h : okX T gls K = true) : okX0 T gls K = true ∧ SysK K ∧ clsB K T = true := by
  unfold okX at h
  simp only [Bool.and_eq_true] at h
  exact ⟨h.1, sysB_ok h.2.1, h.2.2⟩
theorem clB_at {T : Tb} {K : PySem.W.Frag} (h : clsB K T = true) {k : Nat} (lo : 2 ≤ k) (hi : k < T.nc) : IsC K (clA K T k) ∧ (∀ c, c < T.nc → PySem.W.kitOne K (.ref (clA K T k)) (clsVal (clA K T) c) = some (isx k c)) ∧ (∀ c, 1 ≤ c → c < T.nc → PySem.W.exmOne K (.ref (clA K T k)) (.ref (clA K T c)) = some (isx k c)) ∧
    (T.hasI k = true → oexB K (clA K T k) = true) ∧ (T.hasI k = false → PySem.W.excIn K (clA K T k) PySem.HandSPX.veTail "ValueError.__new__" = true) := by
  unfold clsB at h
  simp only [Bool.and_eq_true, List.all_eq_true] at h
  have q := h.2.2.1 k (by simpa using hi)
  rw [Bool.or_eq_true, decide_eq_true_eq] at q
  have q : clB1 K T k = true := by
    rcases q with q | q
    · omega
    · exact q
  unfold clB1 at q
  simp only [Bool.and_eq_true, List.all_eq_true, Bool.or_eq_true, decide_eq_true_eq] at q
  obtain ⟨q1, q2, q3⟩ := q
  refine ⟨isCB_ok q1, fun c hc => (q2 c (by simpa using hc)).1, fun c h1 hc => ?_, fun z => ?_, fun z => ?_⟩
  · rcases (q2 c (by simpa using hc)).2 with z | z
    · omega
    · exact z
  · rw [z, if_pos rfl] at q3
    exact q3
  · rw [z, if_neg (by decide)] at q3
    exact q3
theorem ini_of {P : Program} {w : World} {T : Tb} {gls : List PyData} {K : PySem.W.Frag} {mg : Str → Option Value} (h : okX T gls K = true) {k : Nat} (lo : 2 ≤ k) (hi : k < T.nc) (hI : T.hasI k = true) {qual : Str} {params : Arguments} {body : List Stmt} {scope : Scope} {f : Addr} {fd : FuncData}
    (F : FunD K "__init__" qual params body scope [] [] f fd) (hf : f = He.ma K (clA K T k) "__init__") (hb : Binds K fd ["self", "given"] []) (hS : FnScope ["self", "given"] ["self", "given"] scope) (hi : isInitB body = true) : IniC P w K mg (clA K T k) := by
  obtain ⟨_, _, c⟩ := okX_0 h
  obtain ⟨q1, _, _, q4, _⟩ := clB_at c lo (by assumption)
  obtain ⟨o1, o2, o3⟩ := oexB_ok (q4 hI) q1
  subst hf
  exact ⟨o1, _, fd, o2, o3, hb, qual, params, body, scope, F, hS, hi⟩
theorem clsFact_of {P : Program} {w : World} {T : Tb} {gls : List PyData} {K : PySem.W.Frag} {h : Heap} {mg : Str → Option Value} (X : K.In h) (G : h.Ns mainGlobals mg) (c : okX T gls K = true) (hi : ∀ k, 2 ≤ k → k < T.nc → T.hasI k = true → IniC P w K mg (clA K T k)) : ClsFact P w K mg T.nc T.cname T.hasI (clA K T) := by
  obtain ⟨_, _, cc⟩ := okX_0 c
  have at_ := fun k lo hi => clB_at cc (k := k) lo hi
  unfold clsB at cc
  simp only [Bool.and_eq_true, List.all_eq_true, Bool.or_eq_true, decide_eq_true_eq] at cc
  obtain ⟨c1, c2, c3, c4⟩ := cc
  refine ⟨PySem.W.mg_none_of X G (He.eqO_ok c1), fun c h1 hc => ?_, fun k c lo hk hc => (at_ k lo hk).2.1 c hc, fun k c lo hk h1 hc => (at_ k lo hk).2.2.1 c h1 hc, fun k lo hk => (at_ k lo hk).1, hi, fun k lo hk hn => (at_ k lo hk).2.2.2.2 hn, fun h2 => ?_⟩
  · rcases c2 c (by simpa using hc) with z | z
    · omega
    · exact PySem.W.mg_of X G (He.eqO_ok z)
  · rcases c4 with z | z
    · omega
    · exact z
theorem lookup_mem {α β : Type} [BEq α] [LawfulBEq α] : ∀ {l : List (α × β)} {a : α} {b : β}, l.lookup a = some b → (a, b) ∈ l
  | (x, y) :: r, a, b, h => by
    unfold List.lookup at h
    split at h
    · rename_i e
      cases h
      have : a = x := by simpa using e
      subst this
      exact List.mem_cons_self
    · exact List.mem_cons_of_mem _ (lookup_mem h)
theorem okX_no {T : Tb} {gls : List PyData} {K : PySem.W.Frag} (h : okX T gls K = true) : ∀ b o, K.lookup b = some o → o.cls ≠ .type "list" := fun b o e => by
  have h := (okX_0 h).1
  unfold okX0 at h
  simp only [Bool.and_eq_true, List.all_eq_true] at h
  simpa using h.1.1.1.1 (b, o) (lookup_mem e)
theorem okX_fn {T : Tb} {gls : List PyData} {K : PySem.W.Frag} {h : Heap} {mg : Str → Option Value} (X : K.In h) (G : h.Ns mainGlobals mg) (c : okX T gls K = true) {f : Nat} (hf : f < T.nf) : mg (T.fname f) = some (.ref (He.ga K (T.fname f))) := by
  have c := (okX_0 c).1
  unfold okX0 at c
  simp only [Bool.and_eq_true, List.all_eq_true] at c
  exact PySem.W.mg_of X G (He.eqO_ok (c.2 f (by simpa using hf)))
theorem okX_glo {P : Program} {w : World} {T : Tb} {gls : List PyData} {K : PySem.W.Frag} {h : Heap} {mg : Str → Option Value} (X : K.In h) (G : h.Ns mainGlobals mg) (c : okX T gls K = true) (hi : ∀ k, 2 ≤ k → k < T.nc → T.hasI k = true → IniC P w K mg (clA K T k)) : Glo P w K mg T (fun i => gls[i]?) (clA K T) := by
  have cf := clsFact_of (P := P) (w := w) X G c hi
  have sy := (okX_0 c).2.1
  have c := (okX_0 c).1
  unfold okX0 at c
  simp only [Bool.and_eq_true, List.all_eq_true] at c
  obtain ⟨⟨⟨⟨c1, c2⟩, c3⟩, c4⟩, c5⟩ := c
  refine ⟨fun g x e => ?_, fun x hx => PySem.W.mg_none_of X G (He.eqO_ok (c2 x hx)), fun b hb _ => PySem.W.mg_of X G (He.eqO_ok (c3 b hb)), sy, cf⟩
  have := c4 (x, g) (List.mem_zipIdx_iff_getElem?.mpr (by simpa using e))
  dsimp only at this
  split at this
  · rename_i u eu
    obtain ⟨v, r1, r2⟩ := gchk_ok x u this
    exact ⟨u, v, PySem.W.mg_of X G eu, r1, fun μ H _ => r2 μ H⟩
  · cases this
def hookD (as : List Addr) (T : Tb) (gls : List PyData) (fn : List He.DefD) : PySem.W.Hook where
  α := Bool × He.AlD
  obs := fun s => (okX T gls (He.frG s.heap.get? as), He.obsD [] fn (He.frG s.heap.get? as))
  val := fun _ => (true, He.valD fn)
  says := fun _ h => ∃ K : PySem.W.Frag, K.In h ∧ okX T gls K = true ∧ He.SaysD [] fn K
  of := fun _ _ e => ⟨_, He.frG_in, congrArg Prod.fst e, congrArg Prod.snd e⟩
  keeps := fun _ _ _ ⟨K, hK, c⟩ k => ⟨K, PySem.W.Frag.In.keeps hK k, c⟩
def obD (as : List Addr) (T : Tb) (gls : List PyData) (fn : List He.DefD) (s : PySem.W.SharedT) : Bool × He.AlD :=
  (okX T gls (He.frG (HandSHeadRun.getT s) as), He.obsD [] fn (He.frG (HandSHeadRun.getT s) as))
theorem obD_eq (as : List Addr) (T : Tb) (gls : List PyData) (fn : List He.DefD) (s : PySem.W.SharedT) : obD as T gls fn s = (hookD as T gls fn).obs s.abs := by
  have e : HandSHeadRun.getT s = s.abs.heap.get? := funext (HandSHeadRun.getT_eq s)
  show (okX T gls (He.frG (HandSHeadRun.getT s) as), He.obsD [] fn (He.frG (HandSHeadRun.getT s) as)) = _
  rw [e]
  rfl
def scOk (N ps : List Str) (sc : Scope) : Bool := fnK ⟨N, sc, none, true⟩ && (!sc.isCoroutine && !sc.isGenerator) && (decide N.Nodup && decide (N.take ps.length = ps)) && (ps.all fun x => decide (sc.names.lookup x = some .local) || decide (sc.names.lookup x = some .cell)) && sc.names.all fun y => decide (y.2 ≠ .free)
theorem scope_by {N ps : List Str} {sc : Scope} (h : scOk N ps sc = true) : FnScope N ps sc := by
  unfold scOk fnK at h
  simp only [Bool.and_eq_true, Bool.or_eq_true, Bool.not_eq_true', List.all_eq_true, decide_eq_true_eq] at h
  obtain ⟨⟨⟨⟨h1, h2, h3⟩, h4, h5⟩, h6⟩, h7⟩ := h
  refine ⟨?_, h2, h3, h4, h5, h6, h7⟩
  split at h1
  · assumption
  · cases h1
theorem kwTo_of {K : PySem.W.Frag} {x qual : Str} {params : Arguments} {body : List Stmt} {scope : Scope} {kws : List (Str × V)} {f : Addr} {fd : FuncData} {ps ks : List Str} {n : Nat} {pm : List Nat} (F : FunD K x qual params body scope [] kws f fd)
    (h : ∀ (kV doc pmv : Value) (an : Option Addr) (cdv ct : Value) (us ws vs : List Value), us.length = n → ws.length = ks.length → pm.mapM (fun i => (us ++ ws)[i]?) = some vs → bindArgs (PySem.W.fnOf x qual params body scope .none kV doc pmv an cdv ct) ⟨us, ks.zip ws⟩ = pure (ps.zip vs)) : KwTo K fd ps n ks pm := by
  obtain ⟨oc, od, dV, kV, doc, pmv, an, cdv, ct, osl, rfl, lk, hcd, hD, hK⟩ := F.ex
  intro s us ws vs _ l1 l2 e
  rcases hD with ⟨_, rfl⟩ | ⟨e, _⟩
  · exact .of_eq (h kV doc pmv an cdv ct us ws vs l1 l2 e)
  · exact absurd rfl e
end DL

namespace DL
open PySem PySem.Spec PyProof.Rows L2

section
variable {α β : Type} {Γ : Sm} {ρ : Env'}
@[simp] theorem bnd_re_ (x : α) (f : α → Mo β) : bnd (re x) f = f x := rfl
@[simp] theorem bnd_no_ (f : α → Mo β) : bnd (no : Mo α) f = no := rfl
@[simp] theorem bnd_ite_ (c : Prop) [Decidable c] (a b : Mo α) (f : α → Mo β) : bnd (if c then a else b) f = if c then bnd a f else bnd b f := by
  split <;> rfl
@[simp] theorem lift_some_ (x : α) : lift (some x) = re x := rfl
@[simp] theorem lift_none_ : (lift none : Mo α) = no := rfl
@[simp] theorem asD_d_ (x : PyData) : asD (.d x) = re x := rfl
@[simp] theorem onD_d_ (x : PyData) : onD (.d x) = re x := rfl
@[simp] theorem truthB_ (b : Bool) : truthB (.d (.bool b)) = re b := rfl
def liftW (o : Option PyData) : Mo W := bnd (lift o) fun z => re (.d z)
@[simp] theorem liftW_some (z : PyData) : liftW (some z) = re (.d z) := rfl
@[simp] theorem liftW_none : liftW none = no := rfl
def liftB (o : Option Bool) : Mo W := bnd (lift o) fun z => re (.d (.bool z))
@[simp] theorem liftB_some (z : Bool) : liftB (some z) = re (.d (.bool z)) := rfl
@[simp] theorem liftB_none : liftB none = no := rfl
def gt : Env' → Nat → Mo W
  | [], _ => no
  | o :: _, 0 => (match o with
    | some w => re w
    | none => no)
  | _ :: ρ, n + 1 => gt ρ n
@[simp] theorem gt_0 (w : W) (ρ : Env') : gt (some w :: ρ) 0 = re w := rfl
@[simp] theorem gt_s (o : Option W) (ρ : Env') (n : Nat) : gt (o :: ρ) (n + 1) = gt ρ n := rfl
@[simp] theorem ev_var (i : Nat) : evE Γ (.var i) ρ = gt ρ i := by
  funext S
  rw [evE]
  induction ρ generalizing i with
  | nil => rfl
  | cons o ρ ih =>
    cases i with
    | zero => cases o <;> rfl
    | succ n => exact ih n
@[simp] theorem ev_cI (i : Int) : evE Γ (.cI i) ρ = re (.d (.int i)) := by rw [evE]
@[simp] theorem ev_cB (i : Bool) : evE Γ (.cB i) ρ = re (.d (.bool i)) := by rw [evE]
@[simp] theorem ev_cN : evE Γ (.cN) ρ = re (.d .none) := by rw [evE]
@[simp] theorem ev_cS (i : Str) : evE Γ (.cS i) ρ = re (.d (.str i)) := by rw [evE]
@[simp] theorem ev_glo (g : Nat) : evE Γ (.glo g) ρ = liftW (Γ.glob g) := by rw [evE]; rfl
def opW (o : O2) (x y : W) : Mo W := bnd (asD x) fun dx => bnd (asD y) fun dy => bnd (lift (o2 o dx dy)) fun z => re (.d z)
@[simp] theorem opW_d (o : O2) (x y : PyData) : opW o (.d x) (.d y) = liftW (o2 o x y) := rfl
noncomputable def kBin (Γ : Sm) (o : O2) (b : Ex) (ρ : Env') (x : W) : Mo W := bnd (evE Γ b ρ) (opW o x)
@[simp] theorem kBin_ (o : O2) (b : Ex) (x : W) : kBin Γ o b ρ x = bnd (evE Γ b ρ) (opW o x) := rfl
@[simp] theorem ev_bin (o : O2) (a b : Ex) : evE Γ (.bin o a b) ρ = bnd (evE Γ a ρ) (kBin Γ o b ρ) := by rw [evE]; rfl
def cmW (o : C2) (x y : W) : Mo W := bnd (asD x) fun dx => bnd (asD y) fun dy => bnd (lift (c2 o dx dy)) fun z => re (.d (.bool z))
@[simp] theorem cmW_d (o : C2) (x y : PyData) : cmW o (.d x) (.d y) = liftB (c2 o x y) := rfl
noncomputable def kCmp (Γ : Sm) (o : C2) (b : Ex) (ρ : Env') (x : W) : Mo W := bnd (evE Γ b ρ) (cmW o x)
@[simp] theorem kCmp_ (o : C2) (b : Ex) (x : W) : kCmp Γ o b ρ x = bnd (evE Γ b ρ) (cmW o x) := rfl
@[simp] theorem ev_cmp (o : C2) (a b : Ex) : evE Γ (.cmp o a b) ρ = bnd (evE Γ a ρ) (kCmp Γ o b ρ) := by rw [evE]; rfl
noncomputable def kChn3 (Γ : Sm) (o' : C2) (c : Ex) (ρ : Env') (y : W) (k : Bool) : Mo W := if k = true then bnd (evE Γ c ρ) (cmW o' y) else re (.d (.bool false))
@[simp] theorem kChn3_ (o' : C2) (c : Ex) (y : W) (k : Bool) : kChn3 Γ o' c ρ y k = if k = true then bnd (evE Γ c ρ) (cmW o' y) else re (.d (.bool false)) := rfl
noncomputable def kChn2 (Γ : Sm) (o o' : C2) (c : Ex) (ρ : Env') (x y : W) : Mo W := bnd (asD x) fun dx => bnd (asD y) fun dy => bnd (lift (c2 o dx dy)) (kChn3 Γ o' c ρ y)
@[simp] theorem kChn2_ (o o' : C2) (c : Ex) (x y : PyData) : kChn2 Γ o o' c ρ (.d x) (.d y) = bnd (lift (c2 o x y)) (kChn3 Γ o' c ρ (.d y)) := rfl
noncomputable def kChn (Γ : Sm) (o o' : C2) (b c : Ex) (ρ : Env') (x : W) : Mo W := bnd (evE Γ b ρ) (kChn2 Γ o o' c ρ x)
@[simp] theorem kChn_ (o o' : C2) (b c : Ex) (x : W) : kChn Γ o o' b c ρ x = bnd (evE Γ b ρ) (kChn2 Γ o o' c ρ x) := rfl
@[simp] theorem ev_chn (o o' : C2) (a b c : Ex) : evE Γ (.chn o o' a b c) ρ = bnd (evE Γ a ρ) (kChn Γ o o' b c ρ) := by rw [evE]; rfl
def negW (x : W) : Mo W := match x with
    | .d (.int i) => re (.d (.int (-i)))
    | _ => no
@[simp] theorem negW_ (i : Int) : negW (.d (.int i)) = re (.d (.int (-i))) := rfl
@[simp] theorem ev_neg (a : Ex) : evE Γ (.neg a) ρ = bnd (evE Γ a ρ) negW := by rw [evE]; rfl
def tst (f : Bool → Mo α) (x : W) : Mo α := bnd (truthB x) f
@[simp] theorem tst_ (f : Bool → Mo α) (b : Bool) : tst f (.d (.bool b)) = f b := rfl
noncomputable def kAnd (Γ : Sm) (es : List Ex) (ρ : Env') (k : Bool) : Mo W := if k = true then andE Γ es ρ else re (.d (.bool false))
@[simp] theorem kAnd_ (es : List Ex) (k : Bool) : kAnd Γ es ρ k = if k = true then andE Γ es ρ else re (.d (.bool false)) := rfl
noncomputable def kOr (Γ : Sm) (es : List Ex) (ρ : Env') (k : Bool) : Mo W := if k = true then re (.d (.bool true)) else orE Γ es ρ
@[simp] theorem kOr_ (es : List Ex) (k : Bool) : kOr Γ es ρ k = if k = true then re (.d (.bool true)) else orE Γ es ρ := rfl
@[simp] theorem ev_and (es : List Ex) : evE Γ (.and es) ρ = andE Γ es ρ := by rw [evE]
@[simp] theorem ev_or (es : List Ex) : evE Γ (.or es) ρ = orE Γ es ρ := by rw [evE]
@[simp] theorem and_one (e : Ex) : andE Γ [e] ρ = evE Γ e ρ := by rw [andE]
@[simp] theorem and_two (e e' : Ex) (es : List Ex) : andE Γ (e :: e' :: es) ρ = bnd (evE Γ e ρ) (tst (kAnd Γ (e' :: es) ρ)) := by rw [andE]; rfl
@[simp] theorem or_one (e : Ex) : orE Γ [e] ρ = evE Γ e ρ := by rw [orE]
@[simp] theorem or_two (e e' : Ex) (es : List Ex) : orE Γ (e :: e' :: es) ρ = bnd (evE Γ e ρ) (tst (kOr Γ (e' :: es) ρ)) := by rw [orE]; rfl
def kNot (k : Bool) : Mo W := re (.d (.bool (!k)))
@[simp] theorem kNot_ (k : Bool) : kNot k = re (.d (.bool (!k))) := rfl
@[simp] theorem ev_not (a : Ex) : evE Γ (.not a) ρ = bnd (evE Γ a ρ) (tst kNot) := by rw [evE]; rfl
noncomputable def kIte (Γ : Sm) (a b : Ex) (ρ : Env') (k : Bool) : Mo W := if k = true then evE Γ a ρ else evE Γ b ρ
@[simp] theorem kIte_ (a b : Ex) (k : Bool) : kIte Γ a b ρ k = if k = true then evE Γ a ρ else evE Γ b ρ := rfl
@[simp] theorem ev_ite (t a b : Ex) : evE Γ (.ite t a b) ρ = bnd (evE Γ t ρ) (tst (kIte Γ a b ρ)) := by rw [evE]; rfl
def mkT (ws : List W) : Mo W := bnd (onDs ws) fun xs => if xs.length ≤ LIM then re (.d (.tuple xs)) else no
def mkL (ws : List W) : Mo W := bnd (onDs ws) fun xs => if xs.length ≤ LIM then re (.d (.list xs)) else no
def newL (xs : List PyData) : Mo W := fun S => some (.ok (.l S.length) (S ++ [xs]))
def mkN (ws : List W) : Mo W := bnd (onDs ws) fun xs => if xs.length ≤ LIM then newL xs else no
theorem onDs_map (xs : List PyData) : onDs (xs.map W.d) = re xs := by
  induction xs with
  | nil => rfl
  | cons x xs ih =>
    show (bnd (onD (.d x)) fun x => bnd (onDs (xs.map W.d)) fun xs => re (x :: xs)) = _
    rw [ih]; rfl
theorem asDs_map (xs : List PyData) : asDs (xs.map W.d) = re xs := by
  induction xs with
  | nil => rfl
  | cons x xs ih =>
    show (bnd (asD (.d x)) fun x => bnd (asDs (xs.map W.d)) fun xs => re (x :: xs)) = _
    rw [ih]; rfl
theorem mkT_map (xs : List PyData) (h : xs.length ≤ LIM) : mkT (xs.map W.d) = re (.d (.tuple xs)) := by
  unfold mkT
  rw [onDs_map]
  show (if xs.length ≤ LIM then _ else _) = _
  rw [if_pos h]
theorem mkL_map (xs : List PyData) (h : xs.length ≤ LIM) : mkL (xs.map W.d) = re (.d (.list xs)) := by
  unfold mkL
  rw [onDs_map]
  show (if xs.length ≤ LIM then _ else _) = _
  rw [if_pos h]
theorem mkN_map (xs : List PyData) (h : xs.length ≤ LIM) : mkN (xs.map W.d) = newL xs := by
  unfold mkN
  rw [onDs_map]
  show (if xs.length ≤ LIM then _ else _) = _
  rw [if_pos h]
@[simp] theorem mkT_0 : mkT [] = re (.d (.tuple [])) := mkT_map [] (by show 0 ≤ 100000; decide)
@[simp] theorem mkL_0 : mkL [] = re (.d (.list [])) := mkL_map [] (by show 0 ≤ 100000; decide)
@[simp] theorem mkN_0 : mkN [] = newL [] := mkN_map [] (by show 0 ≤ 100000; decide)
@[simp] theorem mkT_1 (x0 : PyData) : mkT [.d x0] = re (.d (.tuple [x0])) := mkT_map [x0] (by show 1 ≤ 100000; decide)
@[simp] theorem mkL_1 (x0 : PyData) : mkL [.d x0] = re (.d (.list [x0])) := mkL_map [x0] (by show 1 ≤ 100000; decide)
@[simp] theorem mkN_1 (x0 : PyData) : mkN [.d x0] = newL [x0] := mkN_map [x0] (by show 1 ≤ 100000; decide)
@[simp] theorem mkT_2 (x0 x1 : PyData) : mkT [.d x0, .d x1] = re (.d (.tuple [x0, x1])) := mkT_map [x0, x1] (by show 2 ≤ 100000; decide)
@[simp] theorem mkL_2 (x0 x1 : PyData) : mkL [.d x0, .d x1] = re (.d (.list [x0, x1])) := mkL_map [x0, x1] (by show 2 ≤ 100000; decide)
@[simp] theorem mkN_2 (x0 x1 : PyData) : mkN [.d x0, .d x1] = newL [x0, x1] := mkN_map [x0, x1] (by show 2 ≤ 100000; decide)
@[simp] theorem mkT_3 (x0 x1 x2 : PyData) : mkT [.d x0, .d x1, .d x2] = re (.d (.tuple [x0, x1, x2])) := mkT_map [x0, x1, x2] (by show 3 ≤ 100000; decide)
@[simp] theorem mkL_3 (x0 x1 x2 : PyData) : mkL [.d x0, .d x1, .d x2] = re (.d (.list [x0, x1, x2])) := mkL_map [x0, x1, x2] (by show 3 ≤ 100000; decide)
@[simp] theorem mkN_3 (x0 x1 x2 : PyData) : mkN [.d x0, .d x1, .d x2] = newL [x0, x1, x2] := mkN_map [x0, x1, x2] (by show 3 ≤ 100000; decide)
@[simp] theorem mkT_4 (x0 x1 x2 x3 : PyData) : mkT [.d x0, .d x1, .d x2, .d x3] = re (.d (.tuple [x0, x1, x2, x3])) := mkT_map [x0, x1, x2, x3] (by show 4 ≤ 100000; decide)
@[simp] theorem mkL_4 (x0 x1 x2 x3 : PyData) : mkL [.d x0, .d x1, .d x2, .d x3] = re (.d (.list [x0, x1, x2, x3])) := mkL_map [x0, x1, x2, x3] (by show 4 ≤ 100000; decide)
@[simp] theorem mkN_4 (x0 x1 x2 x3 : PyData) : mkN [.d x0, .d x1, .d x2, .d x3] = newL [x0, x1, x2, x3] := mkN_map [x0, x1, x2, x3] (by show 4 ≤ 100000; decide)
@[simp] theorem mkT_5 (x0 x1 x2 x3 x4 : PyData) : mkT [.d x0, .d x1, .d x2, .d x3, .d x4] = re (.d (.tuple [x0, x1, x2, x3, x4])) := mkT_map [x0, x1, x2, x3, x4] (by show 5 ≤ 100000; decide)
@[simp] theorem mkL_5 (x0 x1 x2 x3 x4 : PyData) : mkL [.d x0, .d x1, .d x2, .d x3, .d x4] = re (.d (.list [x0, x1, x2, x3, x4])) := mkL_map [x0, x1, x2, x3, x4] (by show 5 ≤ 100000; decide)
@[simp] theorem mkN_5 (x0 x1 x2 x3 x4 : PyData) : mkN [.d x0, .d x1, .d x2, .d x3, .d x4] = newL [x0, x1, x2, x3, x4] := mkN_map [x0, x1, x2, x3, x4] (by show 5 ≤ 100000; decide)
@[simp] theorem mkT_6 (x0 x1 x2 x3 x4 x5 : PyData) : mkT [.d x0, .d x1, .d x2, .d x3, .d x4, .d x5] = re (.d (.tuple [x0, x1, x2, x3, x4, x5])) := mkT_map [x0, x1, x2, x3, x4, x5] (by show 6 ≤ 100000; decide)
@[simp] theorem mkL_6 (x0 x1 x2 x3 x4 x5 : PyData) : mkL [.d x0, .d x1, .d x2, .d x3, .d x4, .d x5] = re (.d (.list [x0, x1, x2, x3, x4, x5])) := mkL_map [x0, x1, x2, x3, x4, x5] (by show 6 ≤ 100000; decide)
@[simp] theorem mkN_6 (x0 x1 x2 x3 x4 x5 : PyData) : mkN [.d x0, .d x1, .d x2, .d x3, .d x4, .d x5] = newL [x0, x1, x2, x3, x4, x5] := mkN_map [x0, x1, x2, x3, x4, x5] (by show 6 ≤ 100000; decide)
@[simp] theorem mkT_7 (x0 x1 x2 x3 x4 x5 x6 : PyData) : mkT [.d x0, .d x1, .d x2, .d x3, .d x4, .d x5, .d x6] = re (.d (.tuple [x0, x1, x2, x3, x4, x5, x6])) := mkT_map [x0, x1, x2, x3, x4, x5, x6] (by show 7 ≤ 100000; decide)
@[simp] theorem mkL_7 (x0 x1 x2 x3 x4 x5 x6 : PyData) : mkL [.d x0, .d x1, .d x2, .d x3, .d x4, .d x5, .d x6] = re (.d (.list [x0, x1, x2, x3, x4, x5, x6])) := mkL_map [x0, x1, x2, x3, x4, x5, x6] (by show 7 ≤ 100000; decide)
@[simp] theorem mkN_7 (x0 x1 x2 x3 x4 x5 x6 : PyData) : mkN [.d x0, .d x1, .d x2, .d x3, .d x4, .d x5, .d x6] = newL [x0, x1, x2, x3, x4, x5, x6] := mkN_map [x0, x1, x2, x3, x4, x5, x6] (by show 7 ≤ 100000; decide)
@[simp] theorem mkT_8 (x0 x1 x2 x3 x4 x5 x6 x7 : PyData) : mkT [.d x0, .d x1, .d x2, .d x3, .d x4, .d x5, .d x6, .d x7] = re (.d (.tuple [x0, x1, x2, x3, x4, x5, x6, x7])) := mkT_map [x0, x1, x2, x3, x4, x5, x6, x7] (by show 8 ≤ 100000; decide)
@[simp] theorem mkL_8 (x0 x1 x2 x3 x4 x5 x6 x7 : PyData) : mkL [.d x0, .d x1, .d x2, .d x3, .d x4, .d x5, .d x6, .d x7] = re (.d (.list [x0, x1, x2, x3, x4, x5, x6, x7])) := mkL_map [x0, x1, x2, x3, x4, x5, x6, x7] (by show 8 ≤ 100000; decide)
@[simp] theorem mkN_8 (x0 x1 x2 x3 x4 x5 x6 x7 : PyData) : mkN [.d x0, .d x1, .d x2, .d x3, .d x4, .d x5, .d x6, .d x7] = newL [x0, x1, x2, x3, x4, x5, x6, x7] := mkN_map [x0, x1, x2, x3, x4, x5, x6, x7] (by show 8 ≤ 100000; decide)
@[simp] theorem mkT_9 (x0 x1 x2 x3 x4 x5 x6 x7 x8 : PyData) : mkT [.d x0, .d x1, .d x2, .d x3, .d x4, .d x5, .d x6, .d x7, .d x8] = re (.d (.tuple [x0, x1, x2, x3, x4, x5, x6, x7, x8])) := mkT_map [x0, x1, x2, x3, x4, x5, x6, x7, x8] (by show 9 ≤ 100000; decide)
@[simp] theorem mkL_9 (x0 x1 x2 x3 x4 x5 x6 x7 x8 : PyData) : mkL [.d x0, .d x1, .d x2, .d x3, .d x4, .d x5, .d x6, .d x7, .d x8] = re (.d (.list [x0, x1, x2, x3, x4, x5, x6, x7, x8])) := mkL_map [x0, x1, x2, x3, x4, x5, x6, x7, x8] (by show 9 ≤ 100000; decide)
@[simp] theorem mkN_9 (x0 x1 x2 x3 x4 x5 x6 x7 x8 : PyData) : mkN [.d x0, .d x1, .d x2, .d x3, .d x4, .d x5, .d x6, .d x7, .d x8] = newL [x0, x1, x2, x3, x4, x5, x6, x7, x8] := mkN_map [x0, x1, x2, x3, x4, x5, x6, x7, x8] (by show 9 ≤ 100000; decide)
@[simp] theorem ev_tup (es : List Ex) : evE Γ (.tup es) ρ = bnd (evEs Γ es ρ) mkT := by rw [evE]; rfl
@[simp] theorem ev_lst (es : List Ex) : evE Γ (.lst es) ρ = bnd (evEs Γ es ρ) mkL := by rw [evE]; rfl
@[simp] theorem ev_lstL (es : List Ex) : evE Γ (.lstL es) ρ = bnd (evEs Γ es ρ) mkN := by rw [evE]; rfl
def ixW (x y : W) : Mo W := bnd (asD x) fun dx => bnd (onD y) fun dy => bnd (lift (atD dx dy)) fun z => re (.d z)
@[simp] theorem ixW_ (x y : PyData) : ixW (.d x) (.d y) = liftW (atD x y) := rfl
noncomputable def kIdx (Γ : Sm) (i : Ex) (ρ : Env') (x : W) : Mo W := bnd (evE Γ i ρ) (ixW x)
@[simp] theorem kIdx_ (i : Ex) (x : W) : kIdx Γ i ρ x = bnd (evE Γ i ρ) (ixW x) := rfl
@[simp] theorem ev_idx (a i : Ex) : evE Γ (.idx a i) ρ = bnd (evE Γ a ρ) (kIdx Γ i ρ) := by rw [evE]; rfl
def slW (x : W) (p q : Option Int) : Mo W := bnd (asD x) fun dx => bnd (lift (slD dx p q)) fun z => re (.d z)
@[simp] theorem slW_ (x : PyData) (p q : Option Int) : slW (.d x) p q = liftW (slD x p q) := rfl
noncomputable def kSl2 (Γ : Sm) (h : Bool) (hi : Ex) (ρ : Env') (x : W) (p : Option Int) : Mo W := bnd (partO h (evE Γ hi ρ)) (slW x p)
@[simp] theorem kSl2_ (h : Bool) (hi : Ex) (x : W) (p : Option Int) : kSl2 Γ h hi ρ x p = bnd (partO h (evE Γ hi ρ)) (slW x p) := rfl
noncomputable def kSl (Γ : Sm) (l : Bool) (lo : Ex) (h : Bool) (hi : Ex) (ρ : Env') (x : W) : Mo W := bnd (partO l (evE Γ lo ρ)) (kSl2 Γ h hi ρ x)
@[simp] theorem kSl_ (l : Bool) (lo : Ex) (h : Bool) (hi : Ex) (x : W) : kSl Γ l lo h hi ρ x = bnd (partO l (evE Γ lo ρ)) (kSl2 Γ h hi ρ x) := rfl
@[simp] theorem ev_slc (a : Ex) (l : Bool) (lo : Ex) (h : Bool) (hi : Ex) : evE Γ (.slc a l lo h hi) ρ = bnd (evE Γ a ρ) (kSl Γ l lo h hi ρ) := by rw [evE]; rfl
def isW' (T : String) (x : W) : Mo W := bnd (asD x) fun dx => bnd (lift (kitB (tyOf dx) T)) fun k => re (.d (.bool k))
@[simp] theorem isW'_ (T : String) (x : PyData) : isW' T (.d x) = liftB (kitB (tyOf x) T) := rfl
@[simp] theorem ev_isi (T : String) (a : Ex) : evE Γ (.isi T a) ρ = bnd (evE Γ a ρ) (isW' T) := by rw [evE]; rfl
noncomputable def blW (b : B1) (ws : List W) : Mo W := bnd (asDs ws) fun xs => bnd (lift (b1 b xs)) fun z => re (.d z)
@[simp] theorem blW_1 (b : B1) (x : PyData) : blW b [.d x] = liftW (b1 b [x]) := rfl
@[simp] theorem blW_2 (b : B1) (x y : PyData) : blW b [.d x, .d y] = liftW (b1 b [x, y]) := rfl
@[simp] theorem ev_blt (b : B1) (es : List Ex) : evE Γ (.blt b es) ρ = bnd (evEs Γ es ρ) (blW b) := by rw [evE]; rfl
def rpW (x : W) : Mo W := bnd (asD x) fun dx => if reprOk dx = true then re (.d (.str dx.shown)) else no
@[simp] theorem rpW_ (x : PyData) : rpW (.d x) = if reprOk x = true then re (.d (.str x.shown)) else no := rfl
@[simp] theorem ev_rpr (a : Ex) : evE Γ (.rpr a) ρ = bnd (evE Γ a ρ) rpW := by rw [evE]; rfl
@[simp] theorem ev_call (f : Nat) (es : List Ex) : evE Γ (.call f es) ρ = bnd (evEs Γ es ρ) (Γ.call f) := by rw [evE]
noncomputable def kPerm (Γ : Sm) (f : Nat) (perm : List Nat) (ws : List W) : Mo W := bnd (lift (permW ws perm)) (Γ.call f)
@[simp] theorem kPerm_ (f : Nat) (perm : List Nat) (ws : List W) : kPerm Γ f perm ws = bnd (lift (permW ws perm)) (Γ.call f) := rfl
@[simp] theorem ev_callK (f n : Nat) (perm : List Nat) (es : List Ex) : evE Γ (.callK f n perm es) ρ = bnd (evEs Γ es ρ) (kPerm Γ f perm) := by rw [evE]; rfl
@[simp] theorem evs_nil : evEs Γ [] ρ = re [] := by rw [evEs]
def kCons (w : W) (ws : List W) : Mo (List W) := re (w :: ws)
@[simp] theorem kCons_ (w : W) (ws : List W) : kCons w ws = re (w :: ws) := rfl
noncomputable def kArgs (Γ : Sm) (es : List Ex) (ρ : Env') (w : W) : Mo (List W) := bnd (evEs Γ es ρ) (kCons w)
@[simp] theorem kArgs_ (es : List Ex) (w : W) : kArgs Γ es ρ w = bnd (evEs Γ es ρ) (kCons w) := rfl
@[simp] theorem evs_cons (e : Ex) (es : List Ex) : evEs Γ (e :: es) ρ = bnd (evE Γ e ρ) (kArgs Γ es ρ) := by rw [evEs]; rfl
@[simp] theorem cnd_nil : cndE Γ [] ρ = re true := by rw [cndE]
noncomputable def kCnd (Γ : Sm) (cs : List Ex) (ρ : Env') (k : Bool) : Mo Bool := if k = true then cndE Γ cs ρ else re false
@[simp] theorem kCnd_ (cs : List Ex) (k : Bool) : kCnd Γ cs ρ k = if k = true then cndE Γ cs ρ else re false := rfl
@[simp] theorem cnd_cons (c : Ex) (cs : List Ex) : cndE Γ (c :: cs) ρ = bnd (evE Γ c ρ) (tst (kCnd Γ cs ρ)) := by rw [cndE]; rfl
def toO (x : W) : Mo (Option Int) := match x with
  | .d (.int i) => re (some i)
  | _ => no
@[simp] theorem toO_ (i : Int) : toO (.d (.int i)) = re (some i) := rfl
@[simp] theorem partO_t (m : Mo W) : partO true m = bnd m toO := rfl
@[simp] theorem partO_f (m : Mo W) : partO false m = re none := rfl
@[simp] theorem asg_nm (i : Nat) (x : PyData) : asg (.nm i) x ρ = re (ρ.set i (some (.d x))) := by rw [asg]
@[simp] theorem asg_tp (ps : List Pat) (xs : List PyData) : asg (.tp ps) (.tuple xs) ρ = asgs ps xs ρ := by rw [asg]
@[simp] theorem asg_tpL (ps : List Pat) (xs : List PyData) : asg (.tp ps) (.list xs) ρ = asgs ps xs ρ := by rw [asg]
@[simp] theorem asgs_nil : asgs [] [] ρ = re ρ := by rw [asgs]
def kAsgs (ps : List Pat) (xs : List PyData) (ρ' : Env') : Mo Env' := asgs ps xs ρ'
@[simp] theorem kAsgs_ (ps : List Pat) (xs : List PyData) : kAsgs ps xs ρ = asgs ps xs ρ := rfl
@[simp] theorem asgs_cons (p : Pat) (ps : List Pat) (x : PyData) (xs : List PyData) : asgs (p :: ps) (x :: xs) ρ = bnd (asg p x ρ) (kAsgs ps xs) := by rw [asgs]; rfl
def kSet (ρ : Env') (i : Nat) (w : W) : Mo Fl := re (.nx (ρ.set i (some w)))
@[simp] theorem kSet_ (i : Nat) (w : W) : kSet ρ i w = re (.nx (ρ.set i (some w))) := rfl
@[simp] theorem ex_set (i : Nat) (e : Ex) : exS Γ (.set i e) ρ = bnd (evE Γ e ρ) (kSet ρ i) := by rw [exS]; rfl
@[simp] theorem ex_setC (i : Nat) (e : Ex) : exS Γ (.setC i e) ρ = bnd (evE Γ e ρ) (kSet ρ i) := by rw [exS]; rfl
def kNx (ρ' : Env') : Mo Fl := re (.nx ρ')
@[simp] theorem kNx_ : kNx ρ = re (.nx ρ) := rfl
def kAsg (p : Pat) (ρ : Env') (w : W) : Mo Fl := bnd (onD w) fun d => bnd (asg p d ρ) kNx
@[simp] theorem kAsg_ (p : Pat) (d : PyData) : kAsg p ρ (.d d) = bnd (asg p d ρ) kNx := rfl
@[simp] theorem ex_asgn (p : Pat) (e : Ex) : exS Γ (.asgn p e) ρ = bnd (evE Γ e ρ) (kAsg p ρ) := by rw [exS]; rfl
def kPar (is : List Nat) (ρ : Env') (ws : List W) : Mo Fl := bnd (lift (setAll ρ is ws)) kNx
@[simp] theorem kPar_2 (i j : Nat) (a b : W) : kPar [i, j] ρ [a, b] = re (.nx ((ρ.set i (some a)).set j (some b))) := rfl
@[simp] theorem kPar_3 (i j k : Nat) (a b c : W) : kPar [i, j, k] ρ [a, b, c] = re (.nx (((ρ.set i (some a)).set j (some b)).set k (some c))) := rfl
@[simp] theorem ex_par (is : List Nat) (es : List Ex) : exS Γ (.par is es) ρ = bnd (evEs Γ es ρ) (kPar is ρ) := by rw [exS]; rfl
def kExp (ρ : Env') (_ : W) : Mo Fl := re (.nx ρ)
@[simp] theorem kExp_ (w : W) : kExp ρ w = re (.nx ρ) := rfl
@[simp] theorem ex_exp (e : Ex) : exS Γ (.exp e) ρ = bnd (evE Γ e ρ) (kExp ρ) := by rw [exS]; rfl
@[simp] theorem ex_doc : exS Γ .doc ρ = re (.nx ρ) := by rw [exS]
noncomputable def kIff (Γ : Sm) (a b : List Sx) (ρ : Env') (k : Bool) : Mo Fl := if k = true then exSs Γ a ρ else exSs Γ b ρ
@[simp] theorem kIff_ (a b : List Sx) (k : Bool) : kIff Γ a b ρ k = if k = true then exSs Γ a ρ else exSs Γ b ρ := rfl
@[simp] theorem ex_iff (t : Ex) (a b : List Sx) : exS Γ (.iff t a b) ρ = bnd (evE Γ t ρ) (tst (kIff Γ a b ρ)) := by rw [exS]; rfl
def kRet (w : W) : Mo Fl := re (.rt w)
@[simp] theorem kRet_ (w : W) : kRet w = re (.rt w) := rfl
@[simp] theorem ex_ret (e : Ex) : exS Γ (.ret e) ρ = bnd (evE Γ e ρ) kRet := by rw [exS]; rfl
@[simp] theorem ex_pass : exS Γ .pass ρ = re (.nx ρ) := by rw [exS]
@[simp] theorem ex_never : exS Γ .never ρ = no := by rw [exS]
noncomputable def seqF (Γ : Sm) (ss : List Sx) (f : Fl) : Mo Fl := match f with
    | .nx ρ' => exSs Γ ss ρ'
    | .bk ρ' => re (.bk ρ')
    | .ct ρ' => re (.ct ρ')
    | .rt w => re (.rt w)
    | .rl w => re (.rl w)
@[simp] theorem seqF_nx (ss : List Sx) : seqF Γ ss (.nx ρ) = exSs Γ ss ρ := rfl
@[simp] theorem seqF_rt (ss : List Sx) (w : W) : seqF Γ ss (.rt w) = re (.rt w) := rfl
@[simp] theorem seqF_rl (ss : List Sx) (j : Nat) : seqF Γ ss (.rl j) = re (.rl j) := rfl
@[simp] theorem seqF_bk (ss : List Sx) : seqF Γ ss (.bk ρ) = re (.bk ρ) := rfl
@[simp] theorem seqF_ct (ss : List Sx) : seqF Γ ss (.ct ρ) = re (.ct ρ) := rfl
@[simp] theorem exs_nil : exSs Γ [] ρ = re (.nx ρ) := by rw [exSs]
@[simp] theorem exs_cons (s : Sx) (ss : List Sx) : exSs Γ (s :: ss) ρ = bnd (exS Γ s ρ) (seqF Γ ss) := by
  rw [exSs]; rfl
def finM (m : Mo Fl) : Mo W := fun S => (m S).bind (fin S.length)
@[simp] theorem finM_rt (d : PyData) : finM (re (.rt (.d d))) = re (.d d) := by
  funext S
  show some (Out.ok (W.d d) (S.take S.length)) = some (Out.ok (W.d d) S)
  rw [List.take_length]
@[simp] theorem finM_nx (ρ : Env') : finM (re (.nx ρ)) = re (.d .none) := by
  funext S
  show some (Out.ok (W.d PyData.none) (S.take S.length)) = some (Out.ok (W.d PyData.none) S)
  rw [List.take_length]
@[simp] theorem finM_no : finM no = no := rfl
@[simp] theorem finM_ite (c : Prop) [Decidable c] (a b : Mo Fl) : finM (if c then a else b) = if c then finM a else finM b := by
  split <;> rfl
theorem runF_M (sm : Sm) (np nl : Nat) (code : List Sx) (ws : List W) (h : ws.length = np) : runF sm ⟨np, nl, code⟩ ws = finM (exSs sm code (rho nl ws)) := by
  funext S
  show (if ws.length = np then _ else _) = _
  rw [if_pos h]
  rfl
end
@[simp] theorem kit_NoneType_int : kitB "NoneType" "int" = some false := by kernel_rfl
@[simp] theorem kit_NoneType_bool : kitB "NoneType" "bool" = some false := by kernel_rfl
@[simp] theorem kit_NoneType_tuple : kitB "NoneType" "tuple" = some false := by kernel_rfl
@[simp] theorem kit_NoneType_str : kitB "NoneType" "str" = some false := by kernel_rfl
@[simp] theorem kit_NoneType_list : kitB "NoneType" "list" = some false := by kernel_rfl
@[simp] theorem kit_bool_int : kitB "bool" "int" = some true := by kernel_rfl
@[simp] theorem kit_bool_bool : kitB "bool" "bool" = some true := by kernel_rfl
@[simp] theorem kit_bool_tuple : kitB "bool" "tuple" = some false := by kernel_rfl
@[simp] theorem kit_bool_str : kitB "bool" "str" = some false := by kernel_rfl
@[simp] theorem kit_bool_list : kitB "bool" "list" = some false := by kernel_rfl
@[simp] theorem kit_int_int : kitB "int" "int" = some true := by kernel_rfl
@[simp] theorem kit_int_bool : kitB "int" "bool" = some false := by kernel_rfl
@[simp] theorem kit_int_tuple : kitB "int" "tuple" = some false := by kernel_rfl
@[simp] theorem kit_int_str : kitB "int" "str" = some false := by kernel_rfl
@[simp] theorem kit_int_list : kitB "int" "list" = some false := by kernel_rfl
@[simp] theorem kit_str_int : kitB "str" "int" = some false := by kernel_rfl
@[simp] theorem kit_str_bool : kitB "str" "bool" = some false := by kernel_rfl
@[simp] theorem kit_str_tuple : kitB "str" "tuple" = some false := by kernel_rfl
@[simp] theorem kit_str_str : kitB "str" "str" = some true := by kernel_rfl
@[simp] theorem kit_str_list : kitB "str" "list" = some false := by kernel_rfl
@[simp] theorem kit_list_int : kitB "list" "int" = some false := by kernel_rfl
@[simp] theorem kit_list_bool : kitB "list" "bool" = some false := by kernel_rfl
@[simp] theorem kit_list_tuple : kitB "list" "tuple" = some false := by kernel_rfl
@[simp] theorem kit_list_str : kitB "list" "str" = some false := by kernel_rfl
@[simp] theorem kit_list_list : kitB "list" "list" = some true := by kernel_rfl
@[simp] theorem kit_tuple_int : kitB "tuple" "int" = some false := by kernel_rfl
@[simp] theorem kit_tuple_bool : kitB "tuple" "bool" = some false := by kernel_rfl
@[simp] theorem kit_tuple_tuple : kitB "tuple" "tuple" = some true := by kernel_rfl
@[simp] theorem kit_tuple_str : kitB "tuple" "str" = some false := by kernel_rfl
@[simp] theorem kit_tuple_list : kitB "tuple" "list" = some false := by kernel_rfl
@[simp] theorem kit_dict_int : kitB "dict" "int" = some false := by kernel_rfl
@[simp] theorem kit_dict_bool : kitB "dict" "bool" = some false := by kernel_rfl
@[simp] theorem kit_dict_tuple : kitB "dict" "tuple" = some false := by kernel_rfl
@[simp] theorem kit_dict_str : kitB "dict" "str" = some false := by kernel_rfl
@[simp] theorem kit_dict_list : kitB "dict" "list" = some false := by kernel_rfl
theorem ite_same {α : Type} (c : Prop) [Decidable c] (a : α) : (if c then a else a) = a := by split <;> rfl
end DL

namespace DL
open PySem PySem.Spec PyProof.Rows L2

class Bd (x : Int) (w : outParam Nat) : Prop where
  h : x.natAbs < 2 ^ w
theorem pw_le {a b : Nat} (h : a ≤ b) : 2 ^ a ≤ 2 ^ b := Nat.pow_le_pow_right (by decide) h
theorem Bd.mono {x : Int} {v w : Nat} (h : Bd x v) (hl : v ≤ w) : Bd x w := ⟨Nat.lt_of_lt_of_le h.h (pw_le hl)⟩
theorem Bd.log {x : Int} {w : Nat} (h : Bd x w) : x.natAbs.log2 ≤ w := by
  by_cases e : x.natAbs = 0
  · rw [e]; simp
  · exact Nat.le_of_lt ((Nat.log2_lt e).mpr h.h)
instance bd_l0 : Bd 0 0 := ⟨by decide⟩
instance bd_l1 : Bd 1 1 := ⟨by decide⟩
instance bd_l2 : Bd 2 2 := ⟨by decide⟩
instance bd_l3 : Bd 3 2 := ⟨by decide⟩
instance bd_l4 : Bd 4 3 := ⟨by decide⟩
instance bd_l5 : Bd 5 3 := ⟨by decide⟩
instance bd_l6 : Bd 6 3 := ⟨by decide⟩
instance bd_l7 : Bd 7 3 := ⟨by decide⟩
instance bd_l8 : Bd 8 4 := ⟨by decide⟩
instance bd_l9 : Bd 9 4 := ⟨by decide⟩
instance bd_l10 : Bd 10 4 := ⟨by decide⟩
instance bd_l11 : Bd 11 4 := ⟨by decide⟩
instance bd_l12 : Bd 12 4 := ⟨by decide⟩
instance bd_l13 : Bd 13 4 := ⟨by decide⟩
instance bd_l14 : Bd 14 4 := ⟨by decide⟩
instance bd_l15 : Bd 15 4 := ⟨by decide⟩
instance bd_l16 : Bd 16 5 := ⟨by decide⟩
instance bd_l17 : Bd 17 5 := ⟨by decide⟩
instance bd_l18 : Bd 18 5 := ⟨by decide⟩
instance bd_l19 : Bd 19 5 := ⟨by decide⟩
instance bd_l20 : Bd 20 5 := ⟨by decide⟩
instance bd_l21 : Bd 21 5 := ⟨by decide⟩
instance bd_l22 : Bd 22 5 := ⟨by decide⟩
instance bd_l23 : Bd 23 5 := ⟨by decide⟩
instance bd_l24 : Bd 24 5 := ⟨by decide⟩
instance bd_l25 : Bd 25 5 := ⟨by decide⟩
instance bd_l26 : Bd 26 5 := ⟨by decide⟩
instance bd_l27 : Bd 27 5 := ⟨by decide⟩
instance bd_l28 : Bd 28 5 := ⟨by decide⟩
instance bd_l29 : Bd 29 5 := ⟨by decide⟩
instance bd_l30 : Bd 30 5 := ⟨by decide⟩
instance bd_l31 : Bd 31 5 := ⟨by decide⟩
instance bd_l32 : Bd 32 6 := ⟨by decide⟩
instance bd_l33 : Bd 33 6 := ⟨by decide⟩
instance bd_l34 : Bd 34 6 := ⟨by decide⟩
instance bd_l35 : Bd 35 6 := ⟨by decide⟩
instance bd_l36 : Bd 36 6 := ⟨by decide⟩
instance bd_l37 : Bd 37 6 := ⟨by decide⟩
instance bd_l38 : Bd 38 6 := ⟨by decide⟩
instance bd_l39 : Bd 39 6 := ⟨by decide⟩
instance bd_l40 : Bd 40 6 := ⟨by decide⟩
instance bd_l59 : Bd 59 6 := ⟨by decide⟩
instance bd_l101 : Bd 101 7 := ⟨by decide⟩
instance bd_l400 : Bd 400 9 := ⟨by decide⟩
instance bd_l8009 : Bd 8009 13 := ⟨by decide⟩
instance bd_l31013 : Bd 31013 15 := ⟨by decide⟩
instance bd_l999983 : Bd 999983 20 := ⟨by decide⟩
instance bd_l60101 : Bd 60101 16 := ⟨by decide⟩
instance bd_l30323 : Bd 30323 15 := ⟨by decide⟩
instance bd_l9001 : Bd 9001 14 := ⟨by decide⟩
instance bd_l3001 : Bd 3001 12 := ⟨by decide⟩
instance bd_l70001 : Bd 70001 17 := ⟨by decide⟩
instance bd_l52021 : Bd 52021 16 := ⟨by decide⟩
instance bd_l2147483587 : Bd 2147483587 31 := ⟨by decide⟩
instance bd_l1000 : Bd 1000 10 := ⟨by decide⟩
instance bd_l100 : Bd 100 7 := ⟨by decide⟩
instance bd_neg {x : Int} {w : Nat} [h : Bd x w] : Bd (-x) w := ⟨by rw [Int.natAbs_neg]; exact h.h⟩
instance bd_add {x y : Int} {v w : Nat} [h : Bd x v] [k : Bd y w] : Bd (x + y) (max v w + 1) := ⟨by
  have h1 := Nat.lt_of_lt_of_le h.h (pw_le (Nat.le_max_left v w))
  have h2 := Nat.lt_of_lt_of_le k.h (pw_le (Nat.le_max_right v w))
  have h3 := Int.natAbs_add_le x y
  rw [Nat.pow_succ]
  omega⟩
instance bd_sub {x y : Int} {v w : Nat} [h : Bd x v] [k : Bd y w] : Bd (x - y) (max v w + 1) := by
  rw [Int.sub_eq_add_neg]
  exact bd_add
instance bd_mul {x y : Int} {v w : Nat} [h : Bd x v] [k : Bd y w] : Bd (x * y) (v + w) := ⟨by
  rw [Int.natAbs_mul, Nat.pow_add]
  have h1 := h.h
  have h2 := k.h
  by_cases e : y.natAbs = 0
  · rw [e, Nat.mul_zero]; exact Nat.mul_pos (Nat.two_pow_pos _) (Nat.two_pow_pos _)
  · calc x.natAbs * y.natAbs < 2 ^ v * y.natAbs := Nat.mul_lt_mul_of_pos_right h1 (by omega)
      _ ≤ 2 ^ v * 2 ^ w := Nat.mul_le_mul_left _ (Nat.le_of_lt h2)⟩
instance bd_ite {c : Prop} [Decidable c] {x y : Int} {v w : Nat} [h : Bd x v] [k : Bd y w] : Bd (if c then x else y) (max v w) := by
  split
  · exact h.mono (Nat.le_max_left _ _)
  · exact k.mono (Nat.le_max_right _ _)
instance bd_abs {x : Int} {w : Nat} [h : Bd x w] : Bd ((x.natAbs : Nat) : Int) w := ⟨by rw [Int.natAbs_natCast]; exact h.h⟩
theorem mulOk_ {x y : Int} {v w : Nat} (h : Bd x v) (k : Bd y w) (e : v + w < 1000000) : mulOk x y = true := by
  unfold mulOk
  have := h.log
  have := k.log
  exact decide_eq_true (by omega)
@[simp] theorem o2_add_ (i j : Int) : o2 .add (.int i) (.int j) = some (.int (i + j)) := rfl
@[simp] theorem o2_sub_ (i j : Int) : o2 .sub (.int i) (.int j) = some (.int (i - j)) := rfl
@[simp] theorem o2_mul_ {i j : Int} {v w : Nat} [h : Bd i v] [k : Bd j w] (e : v + w < 1000000) : o2 .mul (.int i) (.int j) = some (.int (i * j)) := by
  show (if mulOk i j = true then _ else _) = _
  rw [if_pos (mulOk_ h k e)]
@[simp] theorem c2_lt_ (i j : Int) : c2 .lt (.int i) (.int j) = some (decide (i < j)) := rfl
@[simp] theorem c2_le_ (i j : Int) : c2 .le (.int i) (.int j) = some (decide (i ≤ j)) := rfl
@[simp] theorem c2_gt_ (i j : Int) : c2 .gt (.int i) (.int j) = some (decide (j < i)) := rfl
@[simp] theorem c2_ge_ (i j : Int) : c2 .ge (.int i) (.int j) = some (decide (j ≤ i)) := rfl
@[simp] theorem c2_eqI_ (i j : Int) : c2 .eq (.int i) (.int j) = some (decide (i = j)) := rfl
@[simp] theorem c2_neI_ (i j : Int) : c2 .ne (.int i) (.int j) = some (!decide (i = j)) := rfl
@[simp] theorem c2_eqS_ (i j : Str) : c2 .eq (.str i) (.str j) = some (decide (i = j)) := rfl
@[simp] theorem c2_neS_ (i j : Str) : c2 .ne (.str i) (.str j) = some (!decide (i = j)) := rfl
@[simp] theorem c2_isB_ (i j : Bool) : c2 .is (.bool i) (.bool j) = some (decide (i = j)) := rfl
@[simp] theorem c2_isntB_ (i j : Bool) : c2 .isnt (.bool i) (.bool j) = some (!decide (i = j)) := rfl
@[simp] theorem b1_lenT_ (xs : List PyData) : b1 .len [.tuple xs] = some (.int xs.length) := rfl
@[simp] theorem b1_lenL_ (xs : List PyData) : b1 .len [.list xs] = some (.int xs.length) := rfl
@[simp] theorem b1_int_ (i : Int) : b1 .int [.int i] = some (.int i) := rfl
@[simp] theorem b1_abs_ (i : Int) : b1 .abs [.int i] = some (.int ((i.natAbs : Nat) : Int)) := by
  show some (PyData.int _) = _
  congr 2
  split <;> omega
@[simp] theorem b1_gcd_ (a b : Int) : b1 .gcd [.int a, .int b] = some (.int ((Nat.gcd a.natAbs b.natAbs : Nat) : Int)) := rfl
@[simp] theorem b1_tupL_ (xs : List PyData) : b1 .tuple [.list xs] = some (.tuple xs) := rfl
section
variable {c : Prop} [Decidable c]
@[simp] theorem ite_and_ (p : Bool) : (if c then re (W.d (.bool p)) else re (W.d (.bool false))) = re (W.d (.bool (decide c && p))) := by
  split <;> simp [*]
@[simp] theorem ite_or_ (p : Bool) : (if c then re (W.d (.bool true)) else re (W.d (.bool p))) = re (W.d (.bool (decide c || p))) := by
  split <;> simp [*]
@[simp] theorem ite_int_ (a b : Int) : (if c then re (W.d (.int a)) else re (W.d (.int b))) = re (W.d (.int (if c then a else b))) := by
  split <;> rfl
@[simp] theorem ite_str_ (a b : Str) : (if c then re (W.d (.str a)) else re (W.d (.str b))) = re (W.d (.str (if c then a else b))) := by
  split <;> rfl
end
@[simp] theorem at_0 (x : PyData) (xs : List PyData) : atD (.tuple (x :: xs)) (.int 0) = some x := by
  simp only [atD, atI, ixN]
  simp
@[simp] theorem at_1 (a x : PyData) (xs : List PyData) : atD (.tuple (a :: x :: xs)) (.int 1) = some x := by
  simp only [atD, atI, ixN]
  simp
  rw [if_pos (by omega)]
  simp
@[simp] theorem at_2 (a b x : PyData) (xs : List PyData) : atD (.tuple (a :: b :: x :: xs)) (.int 2) = some x := by
  simp only [atD, atI, ixN]
  simp
  rw [if_pos (by omega)]
  simp
@[simp] theorem at_3 (a b c x : PyData) (xs : List PyData) : atD (.tuple (a :: b :: c :: x :: xs)) (.int 3) = some x := by
  simp only [atD, atI, ixN]
  simp
  rw [if_pos (by omega)]
  simp
abbrev I (i : Int) : PyData := .int i
abbrev V2 (a b : Int) : PyData := .tuple [.int a, .int b]
abbrev A4 (f a b l : Int) : PyData := .tuple [.int f, .int a, .int b, .int l]
end DL

namespace DL
open PySem PySem.Spec PyProof.Rows L2
section
variable {α β : Type} {Γ : Sm} {ρ : Env'}
theorem staying_eq {S0 S : Sto} {g : List Nat} {m : Mo α} (h : stay S0 S g) : staying S0 g m S = m S := by
  classical
  unfold staying
  rw [if_pos h]
theorem stay_refl (S : Sto) (g : List Nat) : stay S S g := fun _ _ => rfl
noncomputable def cmGo (Γ : Sm) (p : Pat) (cs : List Ex) (e : Ex) (S0 : Sto) (g : List Nat) (ρ0 : Env') (xs acc : List PyData) : Mo (List PyData) := compL (asg p) (fun ρ' => cndE Γ cs ρ') (fun ρ' => evE Γ e ρ') S0 g ρ0 xs acc
noncomputable def cmW' (Γ : Sm) (k : SK) (p : Pat) (cs : List Ex) (e : Ex) (ρ0 : Env') (ws : List W) : Mo W := fun S => match itemsOf k ws S with
    | some (xs, g) => if xs.length ≤ LIM then (bnd (noexc (cmGo Γ p cs e S g ρ0 xs [])) fun ys => re (.d (.list ys))) S else none
    | none => none
theorem ev_cmpr (k : SK) (src : List Ex) (p : Pat) (cs : List Ex) (e : Ex) (own : List Nat) : evE Γ (.cmpr k src p cs e own) ρ = bnd (evEs Γ src ρ) (cmW' Γ k p cs e (wipeE ρ own)) := by rw [evE]; rfl
theorem cmGo_ok {p : Pat} {cs : List Ex} {e : Ex} {S : Sto} {g : List Nat} {ρ0 : Env'} {f : PyData → Option PyData} : ∀ (xs acc : List PyData),
    (∀ x ∈ xs, ∃ ρ' b, asg p x ρ0 S = some (.ok ρ' S) ∧ cndE Γ cs ρ' S = some (.ok b S) ∧ (b = false → f x = none) ∧ (b = true → ∃ d, evE Γ e ρ' S = some (.ok (.d d) S) ∧ f x = some d)) →
    cmGo Γ p cs e S g ρ0 xs acc S = some (.ok (acc ++ xs.filterMap f) S)
  | [], acc, _ => by
    classical
    unfold cmGo
    rw [compL]
    rw [staying_eq (stay_refl S g)]
    simp [re]
  | x :: xs, acc, h => by
    classical
    obtain ⟨ρ', b, h1, h2, h3, h4⟩ := h x List.mem_cons_self
    have hr : ∀ x ∈ xs, _ := fun y hy => h y (List.mem_cons_of_mem _ hy)
    unfold cmGo
    rw [compL]
    rw [staying_eq (stay_refl S g)]
    cases b with
    | false =>
      have ih := cmGo_ok (g := g) xs acc hr
      unfold cmGo at ih
      simp only [bnd, h1, h2, Bool.false_eq_true, if_false]
      rw [ih, List.filterMap_cons, h3 rfl]
    | true =>
      obtain ⟨d, h5, h6⟩ := h4 rfl
      have ih := cmGo_ok (g := g) xs (acc ++ [d]) hr
      unfold cmGo at ih
      simp only [bnd, h1, h2, h5, onD, if_true]
      rw [ih, List.filterMap_cons, h6]
      simp
theorem cmW_ok {k : SK} {p : Pat} {cs : List Ex} {e : Ex} {S : Sto} {g : List Nat} {ρ0 : Env'} {f : PyData → Option PyData} {ws : List W} {xs : List PyData} (hi : itemsOf k ws S = some (xs, g)) (hl : xs.length ≤ LIM)
    (h : ∀ x ∈ xs, ∃ ρ' b, asg p x ρ0 S = some (.ok ρ' S) ∧ cndE Γ cs ρ' S = some (.ok b S) ∧ (b = false → f x = none) ∧ (b = true → ∃ d, evE Γ e ρ' S = some (.ok (.d d) S) ∧ f x = some d)) :
    cmW' Γ k p cs e ρ0 ws S = some (.ok (.d (.list (xs.filterMap f))) S) := by
  unfold cmW'
  rw [hi]
  show (if xs.length ≤ LIM then _ else _) = _
  rw [if_pos hl]
  have := cmGo_ok (g := g) xs [] h
  simp only [bnd, noexc, this, re, List.nil_append]
theorem cmW_map {k : SK} {p : Pat} {e : Ex} {ρ0 : Env'} {f : PyData → PyData} {ws : List W} {xs : List PyData} (hi : ∀ S, itemsOf k ws S = some (xs, [])) (hl : xs.length ≤ LIM)
    (h : ∀ x ∈ xs, ∃ ρ', asg p x ρ0 = re ρ' ∧ evE Γ e ρ' = re (.d (f x))) : cmW' Γ k p [] e ρ0 ws = re (.d (.list (xs.map f))) := by
  funext S
  have := cmW_ok (Γ := Γ) (k := k) (p := p) (cs := []) (e := e) (S := S) (g := []) (ρ0 := ρ0) (f := fun x => some (f x)) (hi S) hl fun x hx => by
    obtain ⟨ρ', h1, h2⟩ := h x hx
    exact ⟨ρ', true, by rw [h1]; rfl, by rw [cnd_nil]; rfl, (by simp), fun _ => ⟨f x, by rw [h2]; rfl, rfl⟩⟩
  rw [this]
  have e2 : xs.filterMap (fun x => some (f x)) = xs.map f := by
    induction xs with
    | nil => rfl
    | cons x xs ih => simp
  rw [e2]
  rfl
theorem cm_tup {p : Pat} {e : Ex} {ρ0 : Env'} (f : PyData → PyData) {xs : List PyData} (hl : xs.length ≤ LIM) (h : ∀ x ∈ xs, ∃ ρ', asg p x ρ0 = re ρ' ∧ evE Γ e ρ' = re (.d (f x))) :
    cmW' Γ .seq p [] e ρ0 [.d (.tuple xs)] = re (.d (.list (xs.map f))) := cmW_map (fun _ => rfl) hl h
theorem cm_lst {p : Pat} {e : Ex} {ρ0 : Env'} (f : PyData → PyData) {xs : List PyData} (hl : xs.length ≤ LIM) (h : ∀ x ∈ xs, ∃ ρ', asg p x ρ0 = re ρ' ∧ evE Γ e ρ' = re (.d (f x))) :
    cmW' Γ .seq p [] e ρ0 [.d (.list xs)] = re (.d (.list (xs.map f))) := cmW_map (fun _ => rfl) hl h
noncomputable def frW (Γ : Sm) (k : SK) (p : Pat) (b : List Sx) (ρ : Env') (ws : List W) : Mo Fl := fun S => match itemsOf k ws S with
    | some (xs, g) => if xs.length ≤ LIM then forE (asg p) (fun ρ => exSs Γ b ρ) S g xs ρ S else none
    | none => none
theorem ex_fors (p : Pat) (k : SK) (src : List Ex) (b : List Sx) : exS Γ (.fors p k src b) ρ = bnd (evEs Γ src ρ) (frW Γ k p b ρ) := by rw [exS]; rfl
noncomputable def whW (Γ : Sm) (t : Ex) (b : List Sx) (n : Nat) (ρ : Env') : Mo Fl := whE (fun ρ => bnd (evE Γ t ρ) truthB) (fun ρ => exSs Γ b ρ) n ρ
theorem ex_whl (t : Ex) (b : List Sx) : exS Γ (.whl t b) ρ = whW Γ t b FU ρ := by rw [exS]; rfl
theorem whW_go {t : Ex} {b : List Sx} {n : Nat} {ρ' : Env'} (h1 : evE Γ t ρ = re (.d (.bool true))) (h2 : exSs Γ b ρ = re (.nx ρ')) : whW Γ t b (n + 1) ρ = whW Γ t b n ρ' := by
  unfold whW
  rw [whE, h1, h2]
  rfl
theorem whW_end {t : Ex} {b : List Sx} {n : Nat} (h1 : evE Γ t ρ = re (.d (.bool false))) : whW Γ t b (n + 1) ρ = re (.nx ρ) := by
  unfold whW
  rw [whE, h1]
  rfl
def wp (m : Mo α) (S : Sto) (Q : α → Sto → Prop) : Prop := ∃ a S', m S = some (.ok a S') ∧ Q a S'
theorem wp_re {x : α} {S : Sto} {Q : α → Sto → Prop} (h : Q x S) : wp (re x) S Q := ⟨x, S, rfl, h⟩
theorem wp_bnd {m : Mo α} {f : α → Mo β} {S : Sto} {Q : β → Sto → Prop} (h : wp m S fun a S' => wp (f a) S' Q) : wp (bnd m f) S Q := by
  obtain ⟨a, S', h1, b, S2, h2, q⟩ := h
  exact ⟨b, S2, by unfold bnd; rw [h1]; exact h2, q⟩
theorem wp_mono {m : Mo α} {S : Sto} {Q Q' : α → Sto → Prop} (h : wp m S Q) (k : ∀ a S', Q a S' → Q' a S') : wp m S Q' := by
  obtain ⟨a, S', h1, q⟩ := h
  exact ⟨a, S', h1, k _ _ q⟩
theorem wp_then {m : Mo α} {f : α → Mo β} {S : Sto} {P : α → Sto → Prop} {Q : β → Sto → Prop} (h : wp m S P) (k : ∀ a S', P a S' → wp (f a) S' Q) : wp (bnd m f) S Q := wp_bnd (wp_mono h k)
theorem wp_fin {m : Mo Fl} {S : Sto} {Q : W → Sto → Prop} (h : wp m S fun f S' => match f with
    | .rt (.d d) => Q (.d d) (S'.take S.length)
    | .nx _ => Q (.d .none) (S'.take S.length)
    | .rt (.l j) => S.length ≤ j ∧ ∃ xs, S'[j]? = some xs ∧ Q (.d (.list xs)) (S'.take S.length)
    | .rl j => S.length ≤ j ∧ ∃ xs, S'[j]? = some xs ∧ Q (.l S.length) (S'.take S.length ++ [xs])
    | _ => False) : wp (finM m) S Q := by
  obtain ⟨f, S', h1, q⟩ := h
  unfold wp finM
  rw [h1]
  cases f with
  | nx ρ => exact ⟨_, _, rfl, q⟩
  | bk ρ => exact q.elim
  | ct ρ => exact q.elim
  | rl j =>
    obtain ⟨hj, xs, e, q⟩ := q
    refine ⟨.l S.length, _, ?_, q⟩
    show (if S.length ≤ j then (S'[j]?).map _ else none) = _
    rw [if_pos hj, e]
    rfl
  | rt w =>
    cases w with
    | d x => exact ⟨_, _, rfl, q⟩
    | x a q2 => exact q.elim
    | l j =>
      obtain ⟨hj, xs, e, q⟩ := q
      refine ⟨.d (.list xs), _, ?_, q⟩
      show (if S.length ≤ j then (S'[j]?).map _ else none) = _
      rw [if_pos hj, e]
      rfl
theorem wp_for {k : SK} {p : Pat} {b : List Sx} {ws : List W} {S : Sto} {Q : Fl → Sto → Prop} {xs : List PyData} {g : List Nat} (Iv : List PyData → Env' → Sto → Prop) (hi : itemsOf k ws S = some (xs, g)) (hl : xs.length ≤ LIM)
    (h0 : Iv xs ρ S) (hs : ∀ ys ρ S', Iv ys ρ S' → stay S S' g) (hend : ∀ ρ' S', Iv [] ρ' S' → Q (.nx ρ') S')
    (step : ∀ x ys ρ S', Iv (x :: ys) ρ S' → wp (asg p x ρ) S' fun ρ1 S1 => wp (exSs Γ b ρ1) S1 fun f S2 => match f with
      | .nx ρ2 => Iv ys ρ2 S2
      | .ct ρ2 => Iv ys ρ2 S2
      | .bk ρ2 => Q (.nx ρ2) S2
      | .rt w => Q (.rt w) S2
      | .rl w => Q (.rl w) S2) : wp (frW Γ k p b ρ ws) S Q := by
  classical
  unfold wp frW
  rw [hi]
  show ∃ a S', (if xs.length ≤ LIM then _ else _) = _ ∧ _
  rw [if_pos hl]
  have key : ∀ (ys : List PyData) (ρ : Env') (S' : Sto), Iv ys ρ S' → ∃ a S2, forE (asg p) (fun ρ => exSs Γ b ρ) S g ys ρ S' = some (.ok a S2) ∧ Q a S2 := by
    intro ys
    induction ys with
    | nil =>
      intro ρ S' iv
      refine ⟨.nx ρ, S', ?_, hend _ _ iv⟩
      rw [forE]
      rw [staying_eq (hs _ _ _ iv)]
      rfl
    | cons x ys ih =>
      intro ρ S' iv
      obtain ⟨ρ1, S1, h1, f, S2, h2, q⟩ := step x ys ρ S' iv
      rw [forE]
      rw [staying_eq (hs _ _ _ iv)]
      have h2 : exSs Γ b ρ1 S1 = some (.ok f S2) := h2
      simp only [bnd, h1, h2]
      cases f with
      | nx ρ2 => exact ih ρ2 S2 q
      | ct ρ2 => exact ih ρ2 S2 q
      | bk ρ2 => exact ⟨_, _, rfl, q⟩
      | rt w => exact ⟨_, _, rfl, q⟩
      | rl w => exact ⟨_, _, rfl, q⟩
  exact key xs ρ S h0
end
@[simp] theorem sl_13 (a b c d : PyData) : slD (.tuple [a, b, c, d]) (some 1) (some 3) = some (.tuple [b, c]) := rfl
@[simp] theorem sl_1n (a b c d : PyData) : slD (.tuple [a, b, c, d]) (some 1) none = some (.tuple [b, c, d]) := rfl
@[simp] theorem sl_3n (a b c d : PyData) : slD (.tuple [a, b, c, d]) (some 3) none = some (.tuple [d]) := rfl
@[simp] theorem sl_n2 (a b c d e f g : PyData) : slD (.tuple [a, b, c, d, e, f, g]) none (some 2) = some (.tuple [a, b]) := rfl
@[simp] theorem sl_26 (a b c d e f g : PyData) : slD (.tuple [a, b, c, d, e, f, g]) (some 2) (some 6) = some (.tuple [c, d, e, f]) := rfl
@[simp] theorem at_6 (a b c d e f g : PyData) : atD (.tuple [a, b, c, d, e, f, g]) (.int 6) = some g := rfl
end DL

namespace DL
open PySem PySem.Spec PyProof.Rows L2
@[simp] theorem w_both_steam : ((Str.ofString "both") = Str.ofString "steam") = False := by
  apply eq_false
  decide +kernel
@[simp] theorem w_both_exhaust : ((Str.ofString "both") = Str.ofString "exhaust") = False := by
  apply eq_false
  decide +kernel
@[simp] theorem w_both_closed : ((Str.ofString "both") = Str.ofString "closed") = False := by
  apply eq_false
  decide +kernel
@[simp] theorem w_both_side : ((Str.ofString "both") = Str.ofString "side") = False := by
  apply eq_false
  decide +kernel
@[simp] theorem w_both_and : ((Str.ofString "both") = Str.ofString "and") = False := by
  apply eq_false
  decide +kernel
@[simp] theorem w_both_or : ((Str.ofString "both") = Str.ofString "or") = False := by
  apply eq_false
  decide +kernel
@[simp] theorem w_both_not : ((Str.ofString "both") = Str.ofString "not") = False := by
  apply eq_false
  decide +kernel
@[simp] theorem w_both_all : ((Str.ofString "both") = Str.ofString "all") = False := by
  apply eq_false
  decide +kernel
@[simp] theorem w_both_crank : ((Str.ofString "both") = Str.ofString "crank") = False := by
  apply eq_false
  decide +kernel
@[simp] theorem w_both_head : ((Str.ofString "both") = Str.ofString "head") = False := by
  apply eq_false
  decide +kernel
@[simp] theorem w_both_admission : ((Str.ofString "both") = Str.ofString "admission") = False := by
  apply eq_false
  decide +kernel
@[simp] theorem w_both_cutoff : ((Str.ofString "both") = Str.ofString "cutoff") = False := by
  apply eq_false
  decide +kernel
@[simp] theorem w_both_release : ((Str.ofString "both") = Str.ofString "release") = False := by
  apply eq_false
  decide +kernel
@[simp] theorem w_both_compression : ((Str.ofString "both") = Str.ofString "compression") = False := by
  apply eq_false
  decide +kernel
@[simp] theorem w_steam_both : ((Str.ofString "steam") = Str.ofString "both") = False := by
  apply eq_false
  decide +kernel
@[simp] theorem w_steam_exhaust : ((Str.ofString "steam") = Str.ofString "exhaust") = False := by
  apply eq_false
  decide +kernel
@[simp] theorem w_steam_closed : ((Str.ofString "steam") = Str.ofString "closed") = False := by
  apply eq_false
  decide +kernel
@[simp] theorem w_steam_side : ((Str.ofString "steam") = Str.ofString "side") = False := by
  apply eq_false
  decide +kernel
@[simp] theorem w_steam_and : ((Str.ofString "steam") = Str.ofString "and") = False := by
  apply eq_false
  decide +kernel
@[simp] theorem w_steam_or : ((Str.ofString "steam") = Str.ofString "or") = False := by
  apply eq_false
  decide +kernel
@[simp] theorem w_steam_not : ((Str.ofString "steam") = Str.ofString "not") = False := by
  apply eq_false
  decide +kernel
@[simp] theorem w_steam_all : ((Str.ofString "steam") = Str.ofString "all") = False := by
  apply eq_false
  decide +kernel
@[simp] theorem w_steam_crank : ((Str.ofString "steam") = Str.ofString "crank") = False := by
  apply eq_false
  decide +kernel
@[simp] theorem w_steam_head : ((Str.ofString "steam") = Str.ofString "head") = False := by
  apply eq_false
  decide +kernel
@[simp] theorem w_steam_admission : ((Str.ofString "steam") = Str.ofString "admission") = False := by
  apply eq_false
  decide +kernel
@[simp] theorem w_steam_cutoff : ((Str.ofString "steam") = Str.ofString "cutoff") = False := by
  apply eq_false
  decide +kernel
@[simp] theorem w_steam_release : ((Str.ofString "steam") = Str.ofString "release") = False := by
  apply eq_false
  decide +kernel
@[simp] theorem w_steam_compression : ((Str.ofString "steam") = Str.ofString "compression") = False := by
  apply eq_false
  decide +kernel
@[simp] theorem w_exhaust_both : ((Str.ofString "exhaust") = Str.ofString "both") = False := by
  apply eq_false
  decide +kernel
@[simp] theorem w_exhaust_steam : ((Str.ofString "exhaust") = Str.ofString "steam") = False := by
  apply eq_false
  decide +kernel
@[simp] theorem w_exhaust_closed : ((Str.ofString "exhaust") = Str.ofString "closed") = False := by
  apply eq_false
  decide +kernel
@[simp] theorem w_exhaust_side : ((Str.ofString "exhaust") = Str.ofString "side") = False := by
  apply eq_false
  decide +kernel
@[simp] theorem w_exhaust_and : ((Str.ofString "exhaust") = Str.ofString "and") = False := by
  apply eq_false
  decide +kernel
@[simp] theorem w_exhaust_or : ((Str.ofString "exhaust") = Str.ofString "or") = False := by
  apply eq_false
  decide +kernel
@[simp] theorem w_exhaust_not : ((Str.ofString "exhaust") = Str.ofString "not") = False := by
  apply eq_false
  decide +kernel
@[simp] theorem w_exhaust_all : ((Str.ofString "exhaust") = Str.ofString "all") = False := by
  apply eq_false
  decide +kernel
@[simp] theorem w_exhaust_crank : ((Str.ofString "exhaust") = Str.ofString "crank") = False := by
  apply eq_false
  decide +kernel
@[simp] theorem w_exhaust_head : ((Str.ofString "exhaust") = Str.ofString "head") = False := by
  apply eq_false
  decide +kernel
@[simp] theorem w_exhaust_admission : ((Str.ofString "exhaust") = Str.ofString "admission") = False := by
  apply eq_false
  decide +kernel
@[simp] theorem w_exhaust_cutoff : ((Str.ofString "exhaust") = Str.ofString "cutoff") = False := by
  apply eq_false
  decide +kernel
@[simp] theorem w_exhaust_release : ((Str.ofString "exhaust") = Str.ofString "release") = False := by
  apply eq_false
  decide +kernel
@[simp] theorem w_exhaust_compression : ((Str.ofString "exhaust") = Str.ofString "compression") = False := by
  apply eq_false
  decide +kernel
@[simp] theorem w_closed_both : ((Str.ofString "closed") = Str.ofString "both") = False := by
  apply eq_false
  decide +kernel
@[simp] theorem w_closed_steam : ((Str.ofString "closed") = Str.ofString "steam") = False := by
  apply eq_false
  decide +kernel
@[simp] theorem w_closed_exhaust : ((Str.ofString "closed") = Str.ofString "exhaust") = False := by
  apply eq_false
  decide +kernel
@[simp] theorem w_closed_side : ((Str.ofString "closed") = Str.ofString "side") = False := by
  apply eq_false
  decide +kernel
@[simp] theorem w_closed_and : ((Str.ofString "closed") = Str.ofString "and") = False := by
  apply eq_false
  decide +kernel
@[simp] theorem w_closed_or : ((Str.ofString "closed") = Str.ofString "or") = False := by
  apply eq_false
  decide +kernel
@[simp] theorem w_closed_not : ((Str.ofString "closed") = Str.ofString "not") = False := by
  apply eq_false
  decide +kernel
@[simp] theorem w_closed_all : ((Str.ofString "closed") = Str.ofString "all") = False := by
  apply eq_false
  decide +kernel
@[simp] theorem w_closed_crank : ((Str.ofString "closed") = Str.ofString "crank") = False := by
  apply eq_false
  decide +kernel
@[simp] theorem w_closed_head : ((Str.ofString "closed") = Str.ofString "head") = False := by
  apply eq_false
  decide +kernel
@[simp] theorem w_closed_admission : ((Str.ofString "closed") = Str.ofString "admission") = False := by
  apply eq_false
  decide +kernel
@[simp] theorem w_closed_cutoff : ((Str.ofString "closed") = Str.ofString "cutoff") = False := by
  apply eq_false
  decide +kernel
@[simp] theorem w_closed_release : ((Str.ofString "closed") = Str.ofString "release") = False := by
  apply eq_false
  decide +kernel
@[simp] theorem w_closed_compression : ((Str.ofString "closed") = Str.ofString "compression") = False := by
  apply eq_false
  decide +kernel
@[simp] theorem w_side_both : ((Str.ofString "side") = Str.ofString "both") = False := by
  apply eq_false
  decide +kernel
@[simp] theorem w_side_steam : ((Str.ofString "side") = Str.ofString "steam") = False := by
  apply eq_false
  decide +kernel
@[simp] theorem w_side_exhaust : ((Str.ofString "side") = Str.ofString "exhaust") = False := by
  apply eq_false
  decide +kernel
@[simp] theorem w_side_closed : ((Str.ofString "side") = Str.ofString "closed") = False := by
  apply eq_false
  decide +kernel
@[simp] theorem w_side_and : ((Str.ofString "side") = Str.ofString "and") = False := by
  apply eq_false
  decide +kernel
@[simp] theorem w_side_or : ((Str.ofString "side") = Str.ofString "or") = False := by
  apply eq_false
  decide +kernel
@[simp] theorem w_side_not : ((Str.ofString "side") = Str.ofString "not") = False := by
  apply eq_false
  decide +kernel
@[simp] theorem w_side_all : ((Str.ofString "side") = Str.ofString "all") = False := by
  apply eq_false
  decide +kernel
@[simp] theorem w_side_crank : ((Str.ofString "side") = Str.ofString "crank") = False := by
  apply eq_false
  decide +kernel
@[simp] theorem w_side_head : ((Str.ofString "side") = Str.ofString "head") = False := by
  apply eq_false
  decide +kernel
@[simp] theorem w_side_admission : ((Str.ofString "side") = Str.ofString "admission") = False := by
  apply eq_false
  decide +kernel
@[simp] theorem w_side_cutoff : ((Str.ofString "side") = Str.ofString "cutoff") = False := by
  apply eq_false
  decide +kernel
@[simp] theorem w_side_release : ((Str.ofString "side") = Str.ofString "release") = False := by
  apply eq_false
  decide +kernel
@[simp] theorem w_side_compression : ((Str.ofString "side") = Str.ofString "compression") = False := by
  apply eq_false
  decide +kernel
@[simp] theorem w_and_both : ((Str.ofString "and") = Str.ofString "both") = False := by
  apply eq_false
  decide +kernel
@[simp] theorem w_and_steam : ((Str.ofString "and") = Str.ofString "steam") = False := by
  apply eq_false
  decide +kernel
@[simp] theorem w_and_exhaust : ((Str.ofString "and") = Str.ofString "exhaust") = False := by
  apply eq_false
  decide +kernel
@[simp] theorem w_and_closed : ((Str.ofString "and") = Str.ofString "closed") = False := by
  apply eq_false
  decide +kernel
@[simp] theorem w_and_side : ((Str.ofString "and") = Str.ofString "side") = False := by
  apply eq_false
  decide +kernel
@[simp] theorem w_and_or : ((Str.ofString "and") = Str.ofString "or") = False := by
  apply eq_false
  decide +kernel
@[simp] theorem w_and_not : ((Str.ofString "and") = Str.ofString "not") = False := by
  apply eq_false
  decide +kernel
@[simp] theorem w_and_all : ((Str.ofString "and") = Str.ofString "all") = False := by
  apply eq_false
  decide +kernel
@[simp] theorem w_and_crank : ((Str.ofString "and") = Str.ofString "crank") = False := by
  apply eq_false
  decide +kernel
@[simp] theorem w_and_head : ((Str.ofString "and") = Str.ofString "head") = False := by
  apply eq_false
  decide +kernel
@[simp] theorem w_and_admission : ((Str.ofString "and") = Str.ofString "admission") = False := by
  apply eq_false
  decide +kernel
@[simp] theorem w_and_cutoff : ((Str.ofString "and") = Str.ofString "cutoff") = False := by
  apply eq_false
  decide +kernel
@[simp] theorem w_and_release : ((Str.ofString "and") = Str.ofString "release") = False := by
  apply eq_false
  decide +kernel
@[simp] theorem w_and_compression : ((Str.ofString "and") = Str.ofString "compression") = False := by
  apply eq_false
  decide +kernel
@[simp] theorem w_or_both : ((Str.ofString "or") = Str.ofString "both") = False := by
  apply eq_false
  decide +kernel
@[simp] theorem w_or_steam : ((Str.ofString "or") = Str.ofString "steam") = False := by
  apply eq_false
  decide +kernel
@[simp] theorem w_or_exhaust : ((Str.ofString "or") = Str.ofString "exhaust") = False := by
  apply eq_false
  decide +kernel
@[simp] theorem w_or_closed : ((Str.ofString "or") = Str.ofString "closed") = False := by
  apply eq_false
  decide +kernel
@[simp] theorem w_or_side : ((Str.ofString "or") = Str.ofString "side") = False := by
  apply eq_false
  decide +kernel
@[simp] theorem w_or_and : ((Str.ofString "or") = Str.ofString "and") = False := by
  apply eq_false
  decide +kernel
@[simp] theorem w_or_not : ((Str.ofString "or") = Str.ofString "not") = False := by
  apply eq_false
  decide +kernel
@[simp] theorem w_or_all : ((Str.ofString "or") = Str.ofString "all") = False := by
  apply eq_false
  decide +kernel
@[simp] theorem w_or_crank : ((Str.ofString "or") = Str.ofString "crank") = False := by
  apply eq_false
  decide +kernel
@[simp] theorem w_or_head : ((Str.ofString "or") = Str.ofString "head") = False := by
  apply eq_false
  decide +kernel
@[simp] theorem w_or_admission : ((Str.ofString "or") = Str.ofString "admission") = False := by
  apply eq_false
  decide +kernel
@[simp] theorem w_or_cutoff : ((Str.ofString "or") = Str.ofString "cutoff") = False := by
  apply eq_false
  decide +kernel
@[simp] theorem w_or_release : ((Str.ofString "or") = Str.ofString "release") = False := by
  apply eq_false
  decide +kernel
@[simp] theorem w_or_compression : ((Str.ofString "or") = Str.ofString "compression") = False := by
  apply eq_false
  decide +kernel
@[simp] theorem w_not_both : ((Str.ofString "not") = Str.ofString "both") = False := by
  apply eq_false
  decide +kernel
@[simp] theorem w_not_steam : ((Str.ofString "not") = Str.ofString "steam") = False := by
  apply eq_false
  decide +kernel
@[simp] theorem w_not_exhaust : ((Str.ofString "not") = Str.ofString "exhaust") = False := by
  apply eq_false
  decide +kernel
@[simp] theorem w_not_closed : ((Str.ofString "not") = Str.ofString "closed") = False := by
  apply eq_false
  decide +kernel
@[simp] theorem w_not_side : ((Str.ofString "not") = Str.ofString "side") = False := by
  apply eq_false
  decide +kernel
@[simp] theorem w_not_and : ((Str.ofString "not") = Str.ofString "and") = False := by
  apply eq_false
  decide +kernel
@[simp] theorem w_not_or : ((Str.ofString "not") = Str.ofString "or") = False := by
  apply eq_false
  decide +kernel
@[simp] theorem w_not_all : ((Str.ofString "not") = Str.ofString "all") = False := by
  apply eq_false
  decide +kernel
@[simp] theorem w_not_crank : ((Str.ofString "not") = Str.ofString "crank") = False := by
  apply eq_false
  decide +kernel
@[simp] theorem w_not_head : ((Str.ofString "not") = Str.ofString "head") = False := by
  apply eq_false
  decide +kernel
@[simp] theorem w_not_admission : ((Str.ofString "not") = Str.ofString "admission") = False := by
  apply eq_false
  decide +kernel
@[simp] theorem w_not_cutoff : ((Str.ofString "not") = Str.ofString "cutoff") = False := by
  apply eq_false
  decide +kernel
@[simp] theorem w_not_release : ((Str.ofString "not") = Str.ofString "release") = False := by
  apply eq_false
  decide +kernel
@[simp] theorem w_not_compression : ((Str.ofString "not") = Str.ofString "compression") = False := by
  apply eq_false
  decide +kernel
@[simp] theorem w_all_both : ((Str.ofString "all") = Str.ofString "both") = False := by
  apply eq_false
  decide +kernel
@[simp] theorem w_all_steam : ((Str.ofString "all") = Str.ofString "steam") = False := by
  apply eq_false
  decide +kernel
@[simp] theorem w_all_exhaust : ((Str.ofString "all") = Str.ofString "exhaust") = False := by
  apply eq_false
  decide +kernel
@[simp] theorem w_all_closed : ((Str.ofString "all") = Str.ofString "closed") = False := by
  apply eq_false
  decide +kernel
@[simp] theorem w_all_side : ((Str.ofString "all") = Str.ofString "side") = False := by
  apply eq_false
  decide +kernel
@[simp] theorem w_all_and : ((Str.ofString "all") = Str.ofString "and") = False := by
  apply eq_false
  decide +kernel
@[simp] theorem w_all_or : ((Str.ofString "all") = Str.ofString "or") = False := by
  apply eq_false
  decide +kernel
@[simp] theorem w_all_not : ((Str.ofString "all") = Str.ofString "not") = False := by
  apply eq_false
  decide +kernel
@[simp] theorem w_all_crank : ((Str.ofString "all") = Str.ofString "crank") = False := by
  apply eq_false
  decide +kernel
@[simp] theorem w_all_head : ((Str.ofString "all") = Str.ofString "head") = False := by
  apply eq_false
  decide +kernel
@[simp] theorem w_all_admission : ((Str.ofString "all") = Str.ofString "admission") = False := by
  apply eq_false
  decide +kernel
@[simp] theorem w_all_cutoff : ((Str.ofString "all") = Str.ofString "cutoff") = False := by
  apply eq_false
  decide +kernel
@[simp] theorem w_all_release : ((Str.ofString "all") = Str.ofString "release") = False := by
  apply eq_false
  decide +kernel
@[simp] theorem w_all_compression : ((Str.ofString "all") = Str.ofString "compression") = False := by
  apply eq_false
  decide +kernel
@[simp] theorem w_crank_both : ((Str.ofString "crank") = Str.ofString "both") = False := by
  apply eq_false
  decide +kernel
@[simp] theorem w_crank_steam : ((Str.ofString "crank") = Str.ofString "steam") = False := by
  apply eq_false
  decide +kernel
@[simp] theorem w_crank_exhaust : ((Str.ofString "crank") = Str.ofString "exhaust") = False := by
  apply eq_false
  decide +kernel
@[simp] theorem w_crank_closed : ((Str.ofString "crank") = Str.ofString "closed") = False := by
  apply eq_false
  decide +kernel
@[simp] theorem w_crank_side : ((Str.ofString "crank") = Str.ofString "side") = False := by
  apply eq_false
  decide +kernel
@[simp] theorem w_crank_and : ((Str.ofString "crank") = Str.ofString "and") = False := by
  apply eq_false
  decide +kernel
@[simp] theorem w_crank_or : ((Str.ofString "crank") = Str.ofString "or") = False := by
  apply eq_false
  decide +kernel
@[simp] theorem w_crank_not : ((Str.ofString "crank") = Str.ofString "not") = False := by
  apply eq_false
  decide +kernel
@[simp] theorem w_crank_all : ((Str.ofString "crank") = Str.ofString "all") = False := by
  apply eq_false
  decide +kernel
@[simp] theorem w_crank_head : ((Str.ofString "crank") = Str.ofString "head") = False := by
  apply eq_false
  decide +kernel
@[simp] theorem w_crank_admission : ((Str.ofString "crank") = Str.ofString "admission") = False := by
  apply eq_false
  decide +kernel
@[simp] theorem w_crank_cutoff : ((Str.ofString "crank") = Str.ofString "cutoff") = False := by
  apply eq_false
  decide +kernel
@[simp] theorem w_crank_release : ((Str.ofString "crank") = Str.ofString "release") = False := by
  apply eq_false
  decide +kernel
@[simp] theorem w_crank_compression : ((Str.ofString "crank") = Str.ofString "compression") = False := by
  apply eq_false
  decide +kernel
@[simp] theorem w_head_both : ((Str.ofString "head") = Str.ofString "both") = False := by
  apply eq_false
  decide +kernel
@[simp] theorem w_head_steam : ((Str.ofString "head") = Str.ofString "steam") = False := by
  apply eq_false
  decide +kernel
@[simp] theorem w_head_exhaust : ((Str.ofString "head") = Str.ofString "exhaust") = False := by
  apply eq_false
  decide +kernel
@[simp] theorem w_head_closed : ((Str.ofString "head") = Str.ofString "closed") = False := by
  apply eq_false
  decide +kernel
@[simp] theorem w_head_side : ((Str.ofString "head") = Str.ofString "side") = False := by
  apply eq_false
  decide +kernel
@[simp] theorem w_head_and : ((Str.ofString "head") = Str.ofString "and") = False := by
  apply eq_false
  decide +kernel
@[simp] theorem w_head_or : ((Str.ofString "head") = Str.ofString "or") = False := by
  apply eq_false
  decide +kernel
@[simp] theorem w_head_not : ((Str.ofString "head") = Str.ofString "not") = False := by
  apply eq_false
  decide +kernel
@[simp] theorem w_head_all : ((Str.ofString "head") = Str.ofString "all") = False := by
  apply eq_false
  decide +kernel
@[simp] theorem w_head_crank : ((Str.ofString "head") = Str.ofString "crank") = False := by
  apply eq_false
  decide +kernel
@[simp] theorem w_head_admission : ((Str.ofString "head") = Str.ofString "admission") = False := by
  apply eq_false
  decide +kernel
@[simp] theorem w_head_cutoff : ((Str.ofString "head") = Str.ofString "cutoff") = False := by
  apply eq_false
  decide +kernel
@[simp] theorem w_head_release : ((Str.ofString "head") = Str.ofString "release") = False := by
  apply eq_false
  decide +kernel
@[simp] theorem w_head_compression : ((Str.ofString "head") = Str.ofString "compression") = False := by
  apply eq_false
  decide +kernel
@[simp] theorem w_admission_both : ((Str.ofString "admission") = Str.ofString "both") = False := by
  apply eq_false
  decide +kernel
@[simp] theorem w_admission_steam : ((Str.ofString "admission") = Str.ofString "steam") = False := by
  apply eq_false
  decide +kernel
@[simp] theorem w_admission_exhaust : ((Str.ofString "admission") = Str.ofString "exhaust") = False := by
  apply eq_false
  decide +kernel
@[simp] theorem w_admission_closed : ((Str.ofString "admission") = Str.ofString "closed") = False := by
  apply eq_false
  decide +kernel
@[simp] theorem w_admission_side : ((Str.ofString "admission") = Str.ofString "side") = False := by
  apply eq_false
  decide +kernel
@[simp] theorem w_admission_and : ((Str.ofString "admission") = Str.ofString "and") = False := by
  apply eq_false
  decide +kernel
@[simp] theorem w_admission_or : ((Str.ofString "admission") = Str.ofString "or") = False := by
  apply eq_false
  decide +kernel
@[simp] theorem w_admission_not : ((Str.ofString "admission") = Str.ofString "not") = False := by
  apply eq_false
  decide +kernel
@[simp] theorem w_admission_all : ((Str.ofString "admission") = Str.ofString "all") = False := by
  apply eq_false
  decide +kernel
@[simp] theorem w_admission_crank : ((Str.ofString "admission") = Str.ofString "crank") = False := by
  apply eq_false
  decide +kernel
@[simp] theorem w_admission_head : ((Str.ofString "admission") = Str.ofString "head") = False := by
  apply eq_false
  decide +kernel
@[simp] theorem w_admission_cutoff : ((Str.ofString "admission") = Str.ofString "cutoff") = False := by
  apply eq_false
  decide +kernel
@[simp] theorem w_admission_release : ((Str.ofString "admission") = Str.ofString "release") = False := by
  apply eq_false
  decide +kernel
@[simp] theorem w_admission_compression : ((Str.ofString "admission") = Str.ofString "compression") = False := by
  apply eq_false
  decide +kernel
@[simp] theorem w_cutoff_both : ((Str.ofString "cutoff") = Str.ofString "both") = False := by
  apply eq_false
  decide +kernel
@[simp] theorem w_cutoff_steam : ((Str.ofString "cutoff") = Str.ofString "steam") = False := by
  apply eq_false
  decide +kernel
@[simp] theorem w_cutoff_exhaust : ((Str.ofString "cutoff") = Str.ofString "exhaust") = False := by
  apply eq_false
  decide +kernel
@[simp] theorem w_cutoff_closed : ((Str.ofString "cutoff") = Str.ofString "closed") = False := by
  apply eq_false
  decide +kernel
@[simp] theorem w_cutoff_side : ((Str.ofString "cutoff") = Str.ofString "side") = False := by
  apply eq_false
  decide +kernel
@[simp] theorem w_cutoff_and : ((Str.ofString "cutoff") = Str.ofString "and") = False := by
  apply eq_false
  decide +kernel
@[simp] theorem w_cutoff_or : ((Str.ofString "cutoff") = Str.ofString "or") = False := by
  apply eq_false
  decide +kernel
@[simp] theorem w_cutoff_not : ((Str.ofString "cutoff") = Str.ofString "not") = False := by
  apply eq_false
  decide +kernel
@[simp] theorem w_cutoff_all : ((Str.ofString "cutoff") = Str.ofString "all") = False := by
  apply eq_false
  decide +kernel
@[simp] theorem w_cutoff_crank : ((Str.ofString "cutoff") = Str.ofString "crank") = False := by
  apply eq_false
  decide +kernel
@[simp] theorem w_cutoff_head : ((Str.ofString "cutoff") = Str.ofString "head") = False := by
  apply eq_false
  decide +kernel
@[simp] theorem w_cutoff_admission : ((Str.ofString "cutoff") = Str.ofString "admission") = False := by
  apply eq_false
  decide +kernel
@[simp] theorem w_cutoff_release : ((Str.ofString "cutoff") = Str.ofString "release") = False := by
  apply eq_false
  decide +kernel
@[simp] theorem w_cutoff_compression : ((Str.ofString "cutoff") = Str.ofString "compression") = False := by
  apply eq_false
  decide +kernel
@[simp] theorem w_release_both : ((Str.ofString "release") = Str.ofString "both") = False := by
  apply eq_false
  decide +kernel
@[simp] theorem w_release_steam : ((Str.ofString "release") = Str.ofString "steam") = False := by
  apply eq_false
  decide +kernel
@[simp] theorem w_release_exhaust : ((Str.ofString "release") = Str.ofString "exhaust") = False := by
  apply eq_false
  decide +kernel
@[simp] theorem w_release_closed : ((Str.ofString "release") = Str.ofString "closed") = False := by
  apply eq_false
  decide +kernel
@[simp] theorem w_release_side : ((Str.ofString "release") = Str.ofString "side") = False := by
  apply eq_false
  decide +kernel
@[simp] theorem w_release_and : ((Str.ofString "release") = Str.ofString "and") = False := by
  apply eq_false
  decide +kernel
@[simp] theorem w_release_or : ((Str.ofString "release") = Str.ofString "or") = False := by
  apply eq_false
  decide +kernel
@[simp] theorem w_release_not : ((Str.ofString "release") = Str.ofString "not") = False := by
  apply eq_false
  decide +kernel
@[simp] theorem w_release_all : ((Str.ofString "release") = Str.ofString "all") = False := by
  apply eq_false
  decide +kernel
@[simp] theorem w_release_crank : ((Str.ofString "release") = Str.ofString "crank") = False := by
  apply eq_false
  decide +kernel
@[simp] theorem w_release_head : ((Str.ofString "release") = Str.ofString "head") = False := by
  apply eq_false
  decide +kernel
@[simp] theorem w_release_admission : ((Str.ofString "release") = Str.ofString "admission") = False := by
  apply eq_false
  decide +kernel
@[simp] theorem w_release_cutoff : ((Str.ofString "release") = Str.ofString "cutoff") = False := by
  apply eq_false
  decide +kernel
@[simp] theorem w_release_compression : ((Str.ofString "release") = Str.ofString "compression") = False := by
  apply eq_false
  decide +kernel
@[simp] theorem w_compression_both : ((Str.ofString "compression") = Str.ofString "both") = False := by
  apply eq_false
  decide +kernel
@[simp] theorem w_compression_steam : ((Str.ofString "compression") = Str.ofString "steam") = False := by
  apply eq_false
  decide +kernel
@[simp] theorem w_compression_exhaust : ((Str.ofString "compression") = Str.ofString "exhaust") = False := by
  apply eq_false
  decide +kernel
@[simp] theorem w_compression_closed : ((Str.ofString "compression") = Str.ofString "closed") = False := by
  apply eq_false
  decide +kernel
@[simp] theorem w_compression_side : ((Str.ofString "compression") = Str.ofString "side") = False := by
  apply eq_false
  decide +kernel
@[simp] theorem w_compression_and : ((Str.ofString "compression") = Str.ofString "and") = False := by
  apply eq_false
  decide +kernel
@[simp] theorem w_compression_or : ((Str.ofString "compression") = Str.ofString "or") = False := by
  apply eq_false
  decide +kernel
@[simp] theorem w_compression_not : ((Str.ofString "compression") = Str.ofString "not") = False := by
  apply eq_false
  decide +kernel
@[simp] theorem w_compression_all : ((Str.ofString "compression") = Str.ofString "all") = False := by
  apply eq_false
  decide +kernel
@[simp] theorem w_compression_crank : ((Str.ofString "compression") = Str.ofString "crank") = False := by
  apply eq_false
  decide +kernel
@[simp] theorem w_compression_head : ((Str.ofString "compression") = Str.ofString "head") = False := by
  apply eq_false
  decide +kernel
@[simp] theorem w_compression_admission : ((Str.ofString "compression") = Str.ofString "admission") = False := by
  apply eq_false
  decide +kernel
@[simp] theorem w_compression_cutoff : ((Str.ofString "compression") = Str.ofString "cutoff") = False := by
  apply eq_false
  decide +kernel
@[simp] theorem w_compression_release : ((Str.ofString "compression") = Str.ofString "release") = False := by
  apply eq_false
  decide +kernel
@[simp] theorem so_both : PyData.strOk (Str.ofString "both") = true := by decide +kernel
@[simp] theorem so_steam : PyData.strOk (Str.ofString "steam") = true := by decide +kernel
@[simp] theorem so_exhaust : PyData.strOk (Str.ofString "exhaust") = true := by decide +kernel
@[simp] theorem so_closed : PyData.strOk (Str.ofString "closed") = true := by decide +kernel
@[simp] theorem so_side : PyData.strOk (Str.ofString "side") = true := by decide +kernel
@[simp] theorem so_and : PyData.strOk (Str.ofString "and") = true := by decide +kernel
@[simp] theorem so_or : PyData.strOk (Str.ofString "or") = true := by decide +kernel
@[simp] theorem so_not : PyData.strOk (Str.ofString "not") = true := by decide +kernel
@[simp] theorem so_all : PyData.strOk (Str.ofString "all") = true := by decide +kernel
@[simp] theorem so_crank : PyData.strOk (Str.ofString "crank") = true := by decide +kernel
@[simp] theorem so_head : PyData.strOk (Str.ofString "head") = true := by decide +kernel
@[simp] theorem so_admission : PyData.strOk (Str.ofString "admission") = true := by decide +kernel
@[simp] theorem so_cutoff : PyData.strOk (Str.ofString "cutoff") = true := by decide +kernel
@[simp] theorem so_release : PyData.strOk (Str.ofString "release") = true := by decide +kernel
@[simp] theorem so_compression : PyData.strOk (Str.ofString "compression") = true := by decide +kernel
section
variable {Γ : Sm} {ρ : Env'}
theorem blsOf_map {α : Type} (xs : List α) (g : α → Bool) : blsOf (xs.map fun x => PyData.bool (g x)) = some (xs.map g) := by
  induction xs with
  | nil => rfl
  | cons x xs ih => simp [blsOf, ih]
theorem frW_rel {k : SK} {p : Pat} {b : List Sx} {ws : List W} {xs : List PyData} (R : List PyData → Env' → Prop) (hi : ∀ S, itemsOf k ws S = some (xs, [])) (hl : xs.length ≤ LIM) (h0 : R xs ρ)
    (step : ∀ x ys ρ, R (x :: ys) ρ → ∃ ρ1 ρ2, asg p x ρ = re ρ1 ∧ exSs Γ b ρ1 = re (.nx ρ2) ∧ R ys ρ2) : ∃ ρ', R [] ρ' ∧ frW Γ k p b ρ ws = re (.nx ρ') := by
  have key : ∀ (ys : List PyData) (ρ : Env'), R ys ρ → ∃ ρ', R [] ρ' ∧ ∀ S S', forE (asg p) (fun ρ => exSs Γ b ρ) S [] ys ρ S' = some (.ok (.nx ρ') S') := by
    intro ys
    induction ys with
    | nil =>
      intro ρ r
      refine ⟨ρ, r, fun S S' => ?_⟩
      rw [forE, staying_eq (fun j hj => by cases hj)]
      rfl
    | cons x ys ih =>
      intro ρ r
      obtain ⟨ρ1, ρ2, h1, h2, h3⟩ := step x ys ρ r
      obtain ⟨ρ', r', h4⟩ := ih ρ2 h3
      refine ⟨ρ', r', fun S S' => ?_⟩
      rw [forE, staying_eq (fun j hj => by cases hj), h1]
      simp only [bnd_re_]
      rw [h2]
      simp only [bnd_re_]
      exact h4 S S'
  obtain ⟨ρ', r', h⟩ := key xs ρ h0
  refine ⟨ρ', r', ?_⟩
  funext S
  unfold frW
  rw [hi]
  show (if xs.length ≤ LIM then _ else _) = _
  rw [if_pos hl]
  exact h S S
end
inductive Al2 {α β : Type} (R : α → β → Prop) : List α → List β → Prop
  | nil : Al2 R [] []
  | cons {a : α} {b : β} {as : List α} {bs : List β} : R a b → Al2 R as bs → Al2 R (a :: as) (b :: bs)
section
variable {Γ : Sm} {ρ0 : Env'} {p : Pat} {e : Ex}
theorem cmGo_rel {S : Sto} {g : List Nat} : ∀ {xs ys : List PyData} (acc : List PyData), Al2 (fun x d => ∃ ρ', asg p x ρ0 S = some (.ok ρ' S) ∧ evE Γ e ρ' S = some (.ok (.d d) S)) xs ys → cmGo Γ p [] e S g ρ0 xs acc S = some (.ok (acc ++ ys) S)
  | _, _, acc, .nil => by
    unfold cmGo
    rw [compL, staying_eq (stay_refl S g), List.append_nil]
    rfl
  | x :: xs, d :: ys, acc, .cons ⟨ρ', h1, h2⟩ t => by
    have ih := cmGo_rel (g := g) (acc ++ [d]) t
    unfold cmGo at ih ⊢
    rw [compL, staying_eq (stay_refl S g)]
    simp only [bnd, h1, cnd_nil, re, if_true, h2, onD]
    have e2 : acc ++ d :: ys = (acc ++ [d]) ++ ys := by simp
    rw [e2]
    exact ih
theorem cmS_rel {k : SK} {ws : List W} {S : Sto} {g : List Nat} {xs ys : List PyData} (hi : itemsOf k ws S = some (xs, g)) (hl : xs.length ≤ LIM) (h : Al2 (fun x d => ∃ ρ', asg p x ρ0 S = some (.ok ρ' S) ∧ evE Γ e ρ' S = some (.ok (.d d) S)) xs ys) :
    cmW' Γ k p [] e ρ0 ws S = some (.ok (.d (.list ys)) S) := by
  unfold cmW'
  rw [hi]
  show (if xs.length ≤ LIM then _ else _) = _
  rw [if_pos hl]
  simp only [bnd, noexc, cmGo_rel (g := g) [] h, re, List.nil_append]
theorem Al2.imp {α β : Type} {R R' : α → β → Prop} (w : ∀ a b, R a b → R' a b) : ∀ {xs : List α} {ys : List β}, Al2 R xs ys → Al2 R' xs ys
  | _, _, .nil => .nil
  | _, _, .cons a t => .cons (w _ _ a) (t.imp w)
theorem cm_rel {k : SK} {ws : List W} {xs ys : List PyData} (hi : ∀ S, itemsOf k ws S = some (xs, [])) (hl : xs.length ≤ LIM) (h : Al2 (fun x d => ∃ ρ', asg p x ρ0 = re ρ' ∧ evE Γ e ρ' = re (.d d)) xs ys) :
    cmW' Γ k p [] e ρ0 ws = re (.d (.list ys)) := by
  funext S
  exact cmS_rel (hi S) hl (h.imp fun x d ⟨ρ', h1, h2⟩ => ⟨ρ', by rw [h1]; rfl, by rw [h2]; rfl⟩)
theorem cm2 {x y d1 d2 : PyData} {ρ1 ρ2 : Env'} (a1 : asg p x ρ0 = re ρ1) (e1 : evE Γ e ρ1 = re (.d d1)) (a2 : asg p y ρ0 = re ρ2) (e2 : evE Γ e ρ2 = re (.d d2)) :
    cmW' Γ .seq p [] e ρ0 [.d (.tuple [x, y])] = re (.d (.list [d1, d2])) := cm_rel (fun _ => rfl) (by show 2 ≤ 100000; decide) (.cons ⟨_, a1, e1⟩ (.cons ⟨_, a2, e2⟩ .nil))
end
def gcdL (xs : List Int) : Nat := xs.foldl (fun g x => Nat.gcd g x.natAbs) 0
end DL

namespace DL
open PySem PySem.Spec PyProof.Rows L2
def rx {α : Type} (k : Nat) (p : PyData) : Mo α := fun S => some (.exc k p S)
def inner (s : Stmt) : Stmt := match s with
  | .ClassDef _ _ _ (b :: _) _ _ _ _ _ _ _ => b
  | _ => .Pass ⟨0, 0, 0, 0⟩
section
variable {α β : Type} {Γ : Sm} {ρ : Env'}
@[simp] theorem bnd_rx (k : Nat) (p : PyData) (f : α → Mo β) : bnd (rx k p) f = rx k p := rfl
@[simp] theorem finM_rx (k : Nat) (p : PyData) : finM (rx k p) = rx k p := by
  funext S
  show some (Out.exc k p (S.take S.length)) = some (Out.exc k p S)
  rw [List.take_length]
@[simp] theorem ev_dct0 : evE Γ .dct0 ρ = re (.d (.dict [])) := by rw [evE]
def kRse (k : Nat) (w : W) : Mo Fl := bnd (onD w) fun d => rx k d
@[simp] theorem kRse_ (k : Nat) (d : PyData) : kRse k (.d d) = rx k d := rfl
@[simp] theorem ex_rse (k : Nat) (e : Ex) : exS Γ (.rse k e) ρ = bnd (evE Γ e ρ) (kRse k) := by rw [exS]; rfl
@[simp] theorem ex_rse0 (k : Nat) : exS Γ (.rse0 k) ρ = rx k .none := by rw [exS]; rfl
theorem ev_isE {i c a k : Nat} {d : Option Addr} {q : Option (Addr × PyData)} (h1 : Γ.exc = some (a, d, k)) (h2 : ρ[i]? = some (some (.x a q))) (h3 : q.map (·.1) = d) : evE Γ (.isE i c) ρ = re (.d (.bool (isx k c))) := by
  have e : exAt (some (a, d, k)) (some (some (.x a q))) = some (k, q) := if_pos ⟨rfl, h3⟩
  rw [evE, h1, h2, e]
  rfl
theorem ev_fld {i a k dd : Nat} {p : PyData} (h1 : Γ.exc = some (a, some dd, k)) (h2 : ρ[i]? = some (some (.x a (some (dd, p))))) : evE Γ (.fld i) ρ = re (.d p) := by
  have e : exAt (some (a, some dd, k)) (some (some (.x a (some (dd, p))))) = some (k, some (dd, p)) := if_pos ⟨rfl, rfl⟩
  rw [evE, h1, h2, e]
  rfl
def kCnt (bs : List Bool) (y : W) : Mo W := bnd (onD y) fun dy => bnd (lift (boolD dy)) fun c => re (.d (.int (bs.countP (· == c) : Nat)))
@[simp] theorem kCnt_ (bs : List Bool) (c : Bool) : kCnt bs (.d (.bool c)) = re (.d (.int (bs.countP (· == c) : Nat))) := rfl
noncomputable def kMcnt (Γ : Sm) (b : Ex) (ρ : Env') (x : W) : Mo W := bnd (onD x) fun dx => bnd (lift (blsD dx)) fun bs => bnd (evE Γ b ρ) (kCnt bs)
theorem kMcnt_ {b : Ex} {xs : List PyData} {bs : List Bool} (h : blsOf xs = some bs) : kMcnt Γ b ρ (.d (.list xs)) = bnd (evE Γ b ρ) (kCnt bs) := by
  show bnd (lift (blsOf xs)) _ = _
  rw [h]
  rfl
theorem ev_mcnt (a b : Ex) : evE Γ (.mcnt a b) ρ = bnd (evE Γ a ρ) (kMcnt Γ b ρ) := by rw [evE]; rfl
def kIx (bs : List Bool) (y : W) : Mo W := bnd (onD y) fun dy => bnd (lift (boolD dy)) fun c => if bs.any (· == c) = true then re (.d (.int (bs.findIdx (· == c) : Nat))) else no
@[simp] theorem kIx_ (bs : List Bool) (c : Bool) : kIx bs (.d (.bool c)) = if bs.any (· == c) = true then re (.d (.int (bs.findIdx (· == c) : Nat))) else no := rfl
noncomputable def kMix (Γ : Sm) (b : Ex) (ρ : Env') (x : W) : Mo W := bnd (onD x) fun dx => bnd (lift (blsD dx)) fun bs => bnd (evE Γ b ρ) (kIx bs)
theorem kMix_ {b : Ex} {xs : List PyData} {bs : List Bool} (h : blsOf xs = some bs) : kMix Γ b ρ (.d (.list xs)) = bnd (evE Γ b ρ) (kIx bs) := by
  show bnd (lift (blsOf xs)) _ = _
  rw [h]
  rfl
theorem ev_mix (a b : Ex) : evE Γ (.mix a b) ρ = bnd (evE Γ a ρ) (kMix Γ b ρ) := by rw [evE]; rfl
theorem blsOf_bools (bs : List Bool) : blsOf (bs.map PyData.bool) = some bs := by
  induction bs with
  | nil => rfl
  | cons x xs ih => simp [blsOf, ih]
theorem ex_try_ok {e : Ex} {c i : Nat} {su : List Sx} {w : W} (h : evE Γ e ρ = re w) : exS Γ (.tryE e c i su) ρ = re (.nx ρ) := by
  funext S
  rw [exS, h]
  rfl
theorem ex_try_exc {e : Ex} {c i k : Nat} {su : List Sx} {p : PyData} {f : Fl} (h : evE Γ e ρ = rx k p) (hx : isx k c = true)
    (hs : ∀ a d, exSs { Γ with exc := some (a, if Γ.hasI k = true then some d else none, k) } su (ρ.set i (some (.x a (if Γ.hasI k = true then some (d, p) else none)))) = re f) : exS Γ (.tryE e c i su) ρ = re (clrF i f) := by
  funext S
  rw [exS, h]
  show (if isx k c = true then _ else _) = _
  rw [if_pos hx]
  refine tryM_eq fun a d => ?_
  rw [hs a d]
  rfl
end
end DL

namespace DL
open PySem PySem.Spec PyProof.Rows L2
theorem root_step {n P s x q y : Nat} (hP : 2 ≤ P) (h4 : P * P * (P * P) ≤ 2 * n) (hs1 : s * s * (P * P) ≤ n) (hs2 : n < (s + 1) * (s + 1) * (P * P)) (hs3 : P * P < 2 * ((s + 1) * (s + 1))) (hx : x = (s + 1) * P) (hq : q = n / x) (hy : y = (x + q) / 2) :
    n < (y + 1) * (y + 1) ∧ (n < y * y → (y - 1) * (y - 1) ≤ n) := by
  have hx0 : 0 < x := by rw [hx]; exact Nat.mul_pos (by omega) (by omega)
  have q1 : q * x ≤ n := by rw [hq]; exact Nat.div_mul_le_self n x
  have q2 : n < (q + 1) * x := by
    rw [hq]
    have := Nat.lt_div_mul_add (a := n) hx0
    rw [Nat.add_mul, Nat.one_mul]
    exact this
  have y1 : x + q ≤ 2 * y + 1 := by omega
  have y2 : 2 * y ≤ x + q := by omega
  refine ⟨?_, fun hn => ?_⟩
  · have h1 : (x + q + 1) * (x + q + 1) ≤ (2 * (y + 1)) * (2 * (y + 1)) := Nat.mul_le_mul (by omega) (by omega)
    have h2 : 4 * (x * (q + 1)) ≤ (x + q + 1) * (x + q + 1) := by
      have z : (4 : Int) * (x * (q + 1)) ≤ (x + q + 1) * (x + q + 1) := by
        have w : (0 : Int) ≤ ((x : Int) - (q + 1)) * ((x : Int) - (q + 1)) := by
          rcases Int.le_total 0 ((x : Int) - (q + 1)) with h | h
          · exact Int.mul_nonneg h h
          · exact Int.mul_nonneg_of_nonpos_of_nonpos h h
        grind
      exact_mod_cast z
    have h3 : (2 * (y + 1)) * (2 * (y + 1)) = 4 * ((y + 1) * (y + 1)) := by grind
    have h4 : x * (q + 1) = (q + 1) * x := Nat.mul_comm _ _
    omega
  · -- d = x - q
    have hd : ∃ d : Nat, x ≤ q + d ∧ (d + 2) * (d + 2) ≤ 8 * x := by
      by_cases c : P ≤ s
      · refine ⟨2 * P, ?_, ?_⟩
        · have : (s - 1) * P ≤ q := by
            rw [hq, Nat.le_div_iff_mul_le hx0, hx]
            obtain ⟨t, rfl⟩ : ∃ t, s = t + 1 := ⟨s - 1, by omega⟩
            have : (t + 1 - 1) * P * ((t + 1 + 1) * P) ≤ (t + 1) * (t + 1) * (P * P) := by
              have e1 : (t + 1 - 1) * P * ((t + 1 + 1) * P) = (t * (t + 2)) * (P * P) := by
                rw [Nat.add_sub_cancel]
                grind
              rw [e1]
              exact Nat.mul_le_mul_right _ (by grind)
            omega
          rw [hx]
          obtain ⟨t, rfl⟩ : ∃ t, s = t + 1 := ⟨s - 1, by omega⟩
          rw [Nat.add_sub_cancel] at this
          have e : (t + 1 + 1) * P = t * P + 2 * P := by grind
          omega
        · rw [hx]
          have e1 : (2 * P + 2) * (2 * P + 2) = 4 * ((P + 1) * (P + 1)) := by grind
          have e2 : 8 * ((s + 1) * P) = 4 * ((s + 1) * (2 * P)) := by grind
          rw [e1, e2]
          exact Nat.mul_le_mul_left _ (Nat.mul_le_mul (by omega) (by omega))
      · refine ⟨2 * P - 1, ?_, ?_⟩
        · by_cases s0 : s = 0
          · subst s0
            rw [hx]
            omega
          obtain ⟨t, rfl⟩ : ∃ t, s = t + 1 := ⟨s - 1, by omega⟩
          have : t * P + 1 ≤ q := by
            rw [hq, Nat.le_div_iff_mul_le hx0, hx]
            have hle : (t + 1 + 1) * P ≤ P * P := Nat.mul_le_mul_right _ (by omega)
            have e1 : (t * P + 1) * ((t + 1 + 1) * P) + P * P = (t + 1) * (t + 1) * (P * P) + (t + 1 + 1) * P := by grind
            omega
          rw [hx]
          have e : (t + 1 + 1) * P = t * P + 2 * P := by grind
          omega
        · rw [hx]
          have e1 : 2 * P - 1 + 2 = 2 * P + 1 := by omega
          rw [e1]
          have key : (2 * P + 1) * (2 * P + 1) ≤ 8 * ((s + 1) * P) := by
            apply Nat.le_of_not_lt
            intro h
            have h5 : (8 * ((s + 1) * P)) * (8 * ((s + 1) * P)) < ((2 * P + 1) * (2 * P + 1)) * ((2 * P + 1) * (2 * P + 1)) := Nat.mul_self_lt_mul_self h
            have e2 : (8 * ((s + 1) * P)) * (8 * ((s + 1) * P)) = 32 * (P * P) * (2 * ((s + 1) * (s + 1))) := by grind
            have h6 : 32 * (P * P) * (P * P + 1) ≤ 32 * (P * P) * (2 * ((s + 1) * (s + 1))) := Nat.mul_le_mul_left _ (by omega)
            have h7 : ((2 * P + 1) * (2 * P + 1)) * ((2 * P + 1) * (2 * P + 1)) ≤ 32 * (P * P) * (P * P + 1) := by
              obtain ⟨u, rfl⟩ : ∃ u, P = u + 2 := ⟨P - 2, by omega⟩
              grind
            omega
          exact key
    obtain ⟨d, d1, d2⟩ := hd
    have hy1 : 1 ≤ y := by
      rcases Nat.eq_zero_or_pos y with h | h
      · rw [h] at hn; omega
      · exact h
    obtain ⟨z, rfl⟩ : ∃ z, y = z + 1 := ⟨y - 1, by omega⟩
    rw [Nat.add_sub_cancel]
    have h1 : 2 * z + 2 ≤ x + q := by omega
    -- (2 z)^2 <= (x + q - 2)^2 <= 4 q x
    have h2 : (2 * z) * (2 * z) ≤ 4 * (q * x) := by
      have qx : q ≤ x ∨ x < q := by omega
      have z1 : ((2 * z : Nat) : Int) ≤ x + q - 2 := by omega
      have z2 : ((2 * z : Nat) : Int) * ((2 * z : Nat) : Int) ≤ ((x : Int) + q - 2) * ((x : Int) + q - 2) := Int.mul_le_mul z1 z1 (by omega) (by omega)
      have z3 : ((x : Int) - q) ≤ d := by omega
      have z4 : ((x : Int) - q + 2) * ((x : Int) - q + 2) ≤ 8 * x := by
        have d2' : ((d : Int) + 2) * (d + 2) ≤ 8 * x := by exact_mod_cast d2
        have lo : (-(d : Int) - 2) ≤ (x : Int) - q + 2 := by
          have : q ≤ x := by
            apply Nat.le_of_not_lt
            intro h
            have : x * x < q * x := Nat.mul_lt_mul_of_pos_right h hx0
            have e : (s + 1) * (s + 1) * (P * P) = x * x := by rw [hx]; grind
            omega
          omega
        have hi : (x : Int) - q + 2 ≤ d + 2 := by omega
        have : ((x : Int) - q + 2) * ((x : Int) - q + 2) ≤ ((d : Int) + 2) * (d + 2) := by
          have : 0 ≤ ((d : Int) + 2 - (x - q + 2)) * ((d : Int) + 2 + (x - q + 2)) := Int.mul_nonneg (by omega) (by omega)
          grind
        omega
      have z5 : ((x : Int) + q - 2) * ((x : Int) + q - 2) ≤ 4 * (q * x) := by grind
      have z6 : ((2 * z : Nat) : Int) * ((2 * z : Nat) : Int) ≤ 4 * (q * x) := Int.le_trans z2 z5
      exact_mod_cast z6
    have e : (2 * z) * (2 * z) = 4 * (z * z) := by grind
    omega
theorem below8 {n : Nat} (h : n < 8) : Float64.rootBelow8 n * Float64.rootBelow8 n ≤ n ∧ n < (Float64.rootBelow8 n + 1) * (Float64.rootBelow8 n + 1) := by
  have : ∀ n, n < 8 → Float64.rootBelow8 n * Float64.rootBelow8 n ≤ n ∧ n < (Float64.rootBelow8 n + 1) * (Float64.rootBelow8 n + 1) := by decide +kernel
  exact this n h
theorem root_halves : ∀ (l n : Nat), n.log2 ≤ l + 2 → Float64.rootByHalves l n * Float64.rootByHalves l n ≤ n ∧ n < (Float64.rootByHalves l n + 1) * (Float64.rootByHalves l n + 1)
  | 0, n, h => by
    have hn : n < 8 := by
      by_cases h0 : n = 0
      · omega
      · have := (Nat.log2_lt h0 (k := 3)).mp (by omega)
        omega
    exact below8 hn
  | l + 1, n, h => by
    unfold Float64.rootByHalves
    by_cases c : n < 8
    · rw [if_pos c]
      exact below8 c
    rw [if_neg c]
    have hn0 : n ≠ 0 := by omega
    have hL3 : 3 ≤ n.log2 := by
      have := (Nat.le_log2 hn0 (k := 3)).mpr (by omega)
      exact this
    obtain ⟨k, hk⟩ : ∃ k, k = (n.log2 + 1) / 4 := ⟨_, rfl⟩
    have hk1 : 1 ≤ k := by omega
    obtain ⟨P, hP⟩ : ∃ P, P = 2 ^ k := ⟨_, rfl⟩
    have hP2 : 2 ≤ P := by
      rw [hP]
      calc 2 = 2 ^ 1 := rfl
        _ ≤ 2 ^ k := Nat.pow_le_pow_right (by decide) hk1
    have hPP : 4 ^ k = P * P := by
      rw [hP, ← Nat.pow_add, show (4 : Nat) = 2 ^ 2 from rfl, ← Nat.pow_mul]
      congr 1
      omega
    have hlow : 2 ^ n.log2 ≤ n := Nat.log2_self_le hn0
    have h4 : P * P * (P * P) ≤ 2 * n := by
      have e : P * P * (P * P) = 2 ^ (4 * k) := by
        rw [hP, ← Nat.pow_add, ← Nat.pow_add]
        congr 1
        omega
      rw [e]
      calc 2 ^ (4 * k) ≤ 2 ^ (n.log2 + 1) := Nat.pow_le_pow_right (by decide) (by omega)
        _ = 2 * 2 ^ n.log2 := by rw [Nat.pow_succ]; omega
        _ ≤ 2 * n := by omega
    have hPP0 : 0 < P * P := Nat.mul_pos (by omega) (by omega)
    obtain ⟨m, hm⟩ : ∃ m, m = n / (P * P) := ⟨_, rfl⟩
    have hm1 : m * (P * P) ≤ n := by rw [hm]; exact Nat.div_mul_le_self n _
    have hm2 : n < (m + 1) * (P * P) := by
      have := Nat.lt_div_mul_add (a := n) hPP0
      rw [hm, Nat.add_mul, Nat.one_mul]
      exact this
    have hml : m.log2 ≤ l + 2 := by
      by_cases h0 : m = 0
      · rw [h0]
        simp
      · have : m < 2 ^ (l + 3) := by
          have h1 : n < 2 ^ (n.log2 + 1) := Nat.lt_log2_self
          have h2 : n < 2 ^ (l + 4) := Nat.lt_of_lt_of_le h1 (Nat.pow_le_pow_right (by decide) (by omega))
          apply Nat.lt_of_not_le
          intro h3
          have h5 : 2 ^ (l + 3) * 4 ≤ m * (P * P) := Nat.mul_le_mul h3 (by
            calc 4 = 2 * 2 := rfl
              _ ≤ P * P := Nat.mul_le_mul hP2 hP2)
          have h6 : 2 ^ (l + 3) * 4 = 2 * 2 ^ (l + 4) := by
            rw [Nat.pow_succ 2 (l + 3)]
            omega
          omega
        have := (Nat.log2_lt h0).mpr this
        omega
    obtain ⟨i1, i2⟩ := root_halves l m hml
    rw [← hk]
    dsimp only
    rw [hPP, ← hm, ← hP]
    generalize Float64.rootByHalves l m = s at *
    have hs1 : s * s * (P * P) ≤ n := Nat.le_trans (Nat.mul_le_mul_right _ i1) hm1
    have hs2 : n < (s + 1) * (s + 1) * (P * P) := Nat.lt_of_lt_of_le hm2 (Nat.mul_le_mul_right _ i2)
    have hs3 : P * P < 2 * ((s + 1) * (s + 1)) := by
      have h5 : P * P * (P * P) < 2 * ((s + 1) * (s + 1)) * (P * P) := by
        have e : 2 * ((s + 1) * (s + 1)) * (P * P) = 2 * ((s + 1) * (s + 1) * (P * P)) := Nat.mul_assoc _ _ _
        omega
      exact Nat.lt_of_mul_lt_mul_right h5
    have key := root_step hP2 h4 hs1 hs2 hs3 rfl rfl rfl
    generalize ((s + 1) * P + n / ((s + 1) * P)) / 2 = y at key
    obtain ⟨k1, k2⟩ := key
    by_cases hy : y * y > n
    · rw [if_pos hy]
      refine ⟨k2 hy, ?_⟩
      have : y - 1 + 1 = y ∨ y = 0 := by omega
      rcases this with e | e
      · rw [e]
        exact hy
      · rw [e] at hy
        omega
    · rw [if_neg hy]
      exact ⟨by omega, k1⟩
theorem isqrt_spec (n : Nat) : Float64.isqrt n * Float64.isqrt n ≤ n ∧ n < (Float64.isqrt n + 1) * (Float64.isqrt n + 1) := root_halves _ _ (by omega)
theorem b1_isqrt_ {a : Int} (h0 : 0 ≤ a) (h1 : a.natAbs.log2 < 13000) : ∃ r : Int, b1 .isqrt [.int a] = some (.int r) ∧ 0 ≤ r ∧ r * r ≤ a ∧ a < (r + 1) * (r + 1) := by
  refine ⟨((Float64.isqrt a.toNat : Nat) : Int), if_pos ⟨h0, h1⟩, by omega, ?_, ?_⟩
  · have := (isqrt_spec a.toNat).1
    have e : ((a.toNat : Nat) : Int) = a := by omega
    rw [← e]
    exact_mod_cast this
  · have := (isqrt_spec a.toNat).2
    have e : ((a.toNat : Nat) : Int) = a := by omega
    rw [← e]
    exact_mod_cast this
end DL

namespace DL
open PySem PySem.Spec PyProof.Rows L2
section
variable {Γ : Sm} {ρ : Env'}
theorem frW_find {k : SK} {p : Pat} {b : List Sx} {ws : List W} {xs : List PyData} (R : Env' → Prop) (t : PyData → Bool) (out : PyData → W) (hi : ∀ S, itemsOf k ws S = some (xs, [])) (hl : xs.length ≤ LIM) (h0 : R ρ)
    (step : ∀ x ∈ xs, ∀ ρ, R ρ → ∃ ρ1, asg p x ρ = re ρ1 ∧ ((t x = true ∧ exSs Γ b ρ1 = re (.rt (out x))) ∨ (t x = false ∧ ∃ ρ2, R ρ2 ∧ exSs Γ b ρ1 = re (.nx ρ2)))) :
    (∃ x, xs.find? t = some x ∧ frW Γ k p b ρ ws = re (.rt (out x))) ∨ (xs.find? t = none ∧ ∃ ρ', R ρ' ∧ frW Γ k p b ρ ws = re (.nx ρ')) := by
  have key : ∀ (ys : List PyData) (ρ : Env'), (∀ y ∈ ys, y ∈ xs) → R ρ → (∃ x, ys.find? t = some x ∧ ∀ S S', forE (asg p) (fun ρ => exSs Γ b ρ) S [] ys ρ S' = some (.ok (.rt (out x)) S')) ∨
      (ys.find? t = none ∧ ∃ ρ', R ρ' ∧ ∀ S S', forE (asg p) (fun ρ => exSs Γ b ρ) S [] ys ρ S' = some (.ok (.nx ρ') S')) := by
    intro ys
    induction ys with
    | nil =>
      intro ρ _ r
      refine .inr ⟨rfl, ρ, r, fun S S' => ?_⟩
      rw [forE, staying_eq (fun j hj => by cases hj)]
      rfl
    | cons x ys ih =>
      intro ρ hm r
      obtain ⟨ρ1, h1, h2 | ⟨h2, ρ2, r2, h3⟩⟩ := step x (hm x List.mem_cons_self) ρ r
      · refine .inl ⟨x, by rw [List.find?_cons, h2.1], fun S S' => ?_⟩
        rw [forE, staying_eq (fun j hj => by cases hj), h1]
        simp only [bnd_re_]
        rw [h2.2]
        rfl
      · have ee : ∀ S S', forE (asg p) (fun ρ => exSs Γ b ρ) S [] (x :: ys) ρ S' = forE (asg p) (fun ρ => exSs Γ b ρ) S [] ys ρ2 S' := fun S S' => by
          rw [forE, staying_eq (fun j hj => by cases hj), h1]
          simp only [bnd_re_]
          rw [h3]
          rfl
        have ef : (x :: ys).find? t = ys.find? t := by rw [List.find?_cons, h2]
        rcases ih ρ2 (fun y hy => hm y (List.mem_cons_of_mem _ hy)) r2 with ⟨z, i1, i2⟩ | ⟨i1, ρ', r', i2⟩
        · exact .inl ⟨z, by rw [ef, i1], fun S S' => by rw [ee, i2]⟩
        · exact .inr ⟨by rw [ef, i1], ρ', r', fun S S' => by rw [ee, i2]⟩
  have fin_ : ∀ f, (∀ S S', forE (asg p) (fun ρ => exSs Γ b ρ) S [] xs ρ S' = some (.ok f S')) → frW Γ k p b ρ ws = re f := fun f h => by
    funext S
    unfold frW
    rw [hi]
    show (if xs.length ≤ LIM then _ else _) = _
    rw [if_pos hl]
    exact h S S
  rcases key xs ρ (fun _ h => h) h0 with ⟨x, i1, i2⟩ | ⟨i1, ρ', r', i2⟩
  · exact .inl ⟨x, i1, fin_ _ i2⟩
  · exact .inr ⟨i1, ρ', r', fin_ _ i2⟩
theorem whW_ret {t : Ex} {b : List Sx} {n : Nat} {w : W} (h1 : evE Γ t ρ = re (.d (.bool true))) (h2 : exSs Γ b ρ = re (.rt w)) : whW Γ t b (n + 1) ρ = re (.rt w) := by
  unfold whW
  rw [whE, h1, h2]
  rfl
end
theorem o2_shl_ {i : Int} {n : Nat} {w : Nat} [h : Bd i w] (hw : w < 100000) (hn : n ≤ 100000) : o2 .shl (.int i) (.int n) = some (.int (i * 2 ^ n)) := by
  show (if 0 ≤ (n : Int) ∧ (n : Int) ≤ 1000000 ∧ i.natAbs.log2 < 1000000 then some (PyData.int (i * 2 ^ ((n : Int)).toNat)) else none) = _
  have := h.log
  rw [if_pos ⟨by omega, by omega, by omega⟩]
  rfl
end DL

namespace G07
open PySem PySem.Spec PyProof.Rows L2 DL
def top (i : Nat) : Stmt := PySem.Challenge.pw_steamgears_k07_whole_places_between.main.body.getD i (.Pass ⟨0, 0, 0, 0⟩)
def dd (i : Nat) (x at_ : Str) : He.DefD := ⟨(at_, none), x, x, defArgs (top i), defBody (top i), defScope (top i), [], []⟩
def c_is_whole : List Sx := [
  .ret (.and [.isi "int" (.var 0), .not (.isi "bool" (.var 0))])]
def c_is_between_values : List Sx := [
  .ret (.and [.call 0 [.var 0], .chn .le .le (.var 1) (.var 0) (.var 2)])]
def c_are_wholes : List Sx := [
  .ret (.and [.isi "tuple" (.var 0), .cmp .eq (.blt .len [.var 0]) (.var 1), .blt .all [.cmpr .seq [.var 0] (.nm 2) [] (.call 0 [.var 2]) [2]]])]
def c_common : List Sx := [
  .set 1 (.cI 0),
  .fors (.nm 2) .seq [.var 0] [.set 1 (.blt .gcd [.var 1, .var 2])],
  .ret (.var 1)]
def c_reduced : List Sx := [
  .set 1 (.call 3 [.var 0]),
  .ret (.ite (.cmp .gt (.var 1) (.cI 1)) (.blt .tuple [.cmpr .seq [.var 0] (.nm 2) [] (.bin .fdiv (.var 2) (.var 1)) [2]]) (.blt .tuple [.var 0]))]
def c_sign_of : List Sx := [
  .ret (.ite (.cmp .gt (.var 0) (.cI 0)) (.cI 1) (.ite (.cmp .lt (.var 0) (.cI 0)) (.neg (.cI 1)) (.cI 0)))]
def c_root_sign : List Sx := [
  .par [3, 4] [.call 5 [.var 0], .ite (.cmp .gt (.var 2) (.cI 0)) (.call 5 [.var 1]) (.cI 0)],
  .iff (.or [.cmp .eq (.var 3) (.cI 0), .cmp .eq (.var 4) (.cI 0), .cmp .eq (.var 3) (.var 4)]) [.ret (.ite (.cmp .ne (.var 3) (.cI 0)) (.var 3) (.var 4))] [],
  .ret (.bin .mul (.var 3) (.call 5 [.bin .sub (.bin .mul (.var 0) (.var 0)) (.bin .mul (.bin .mul (.var 1) (.var 1)) (.var 2))]))]
def c_double_sign : List Sx := [
  .set 4 (.call 6 [.idx (.var 0) (.cI 0), .idx (.var 0) (.cI 1), .var 2]),
  .set 5 (.ite (.cmp .gt (.var 3) (.cI 0)) (.call 6 [.idx (.var 1) (.cI 0), .idx (.var 1) (.cI 1), .var 2]) (.cI 0)),
  .iff (.or [.cmp .eq (.var 4) (.cI 0), .cmp .eq (.var 5) (.cI 0), .cmp .eq (.var 4) (.var 5)]) [.ret (.ite (.cmp .ne (.var 4) (.cI 0)) (.var 4) (.var 5))] [],
  .set 6 (.bin .add (.bin .mul (.idx (.var 0) (.cI 0)) (.idx (.var 0) (.cI 0))) (.bin .mul (.bin .mul (.idx (.var 0) (.cI 1)) (.idx (.var 0) (.cI 1))) (.var 2))),
  .set 7 (.bin .add (.bin .mul (.idx (.var 1) (.cI 0)) (.idx (.var 1) (.cI 0))) (.bin .mul (.bin .mul (.idx (.var 1) (.cI 1)) (.idx (.var 1) (.cI 1))) (.var 2))),
  .set 8 (.bin .mul (.cI 2) (.bin .sub (.bin .mul (.idx (.var 0) (.cI 0)) (.idx (.var 0) (.cI 1))) (.bin .mul (.bin .mul (.var 3) (.idx (.var 1) (.cI 0))) (.idx (.var 1) (.cI 1))))),
  .ret (.bin .mul (.var 4) (.call 6 [.bin .sub (.var 6) (.bin .mul (.var 3) (.var 7)), .var 8, .var 2]))]
def c_product : List Sx := [
  .ret (.bin .add (.bin .mul (.idx (.var 1) (.cI 0)) (.idx (.var 2) (.cI 0))) (.bin .mul (.bin .mul (.var 0) (.idx (.var 1) (.cI 1))) (.idx (.var 2) (.cI 1))))]
def c_cross : List Sx := [
  .ret (.bin .sub (.bin .mul (.idx (.var 0) (.cI 0)) (.idx (.var 1) (.cI 1))) (.bin .mul (.idx (.var 0) (.cI 1)) (.idx (.var 1) (.cI 0))))]
def c_norm : List Sx := [
  .ret (.call 8 [.var 0, .var 1, .var 1])]
def c_is_angle : List Sx := [
  .iff (.or [.not (.call 2 [.var 0, .cI 4]), .not (.call 1 [.idx (.var 0) (.cI 0), .cI 1, .glo 0]), .cmp .ne (.call 3 [.slc (.var 0) true (.cI 1) false .cN]) (.cI 1)]) [.ret (.cB false)] [],
  .ret (.cmp .gt (.call 10 [.idx (.var 0) (.cI 0), .slc (.var 0) true (.cI 1) true (.cI 3)]) (.bin .mul (.idx (.var 0) (.cI 3)) (.idx (.var 0) (.cI 3))))]
def c_is_turn : List Sx := [
  .ret (.and [.call 2 [.var 0, .cI 2], .cmp .eq (.call 3 [.var 0]) (.cI 1), .or [.cmp .gt (.idx (.var 0) (.cI 0)) (.cI 0), .cmp .eq (.var 0) (.tup [.cI 0, .cI 1])]])]
def c_is_way : List Sx := [
  .ret (.and [.call 2 [.var 0, .cI 2], .cmp .eq (.call 3 [.var 0]) (.cI 1)])]
def c_check_form : List Sx := [
  .iff (.not (.call 1 [.var 0, .cI 1, .glo 0])) [.rse 2 (.var 0)] []]
def c_check_angle : List Sx := [
  .iff (.not (.call 11 [.var 0])) [.rse 3 (.var 0)] []]
def c_check_turn : List Sx := [
  .iff (.not (.call 12 [.var 0])) [.rse 5 (.var 0)] []]
def c_check_way : List Sx := [
  .iff (.not (.call 13 [.var 0])) [.rse 4 (.var 0)] []]
def c_check_form_of : List Sx := [
  .iff (.cmp .ne (.idx (.var 0) (.cI 0)) (.var 1)) [.rse 6 (.var 0)] []]
def c_square_at : List Sx := [
  .ret (.bin .mul (.idx (.var 0) (.cI 0)) (.bin .sub (.call 10 [.idx (.var 0) (.cI 0), .slc (.var 0) true (.cI 1) true (.cI 3)]) (.bin .mul (.idx (.var 0) (.cI 3)) (.idx (.var 0) (.cI 3)))))]
def c_place_of : List Sx := [
  .ret (.bin .add (.tup [.var 0]) (.call 4 [.tup [.bin .mul (.neg (.var 0)) (.idx (.var 1) (.cI 1)), .idx (.var 1) (.cI 0), .cI 0]]))]
def c_sign_at : List Sx := [
  .par [4, 5, 6] [.idx (.var 0) (.cI 0), .slc (.var 0) true (.cI 1) true (.cI 3), .idx (.var 0) (.cI 3)],
  .set 3 (.bin .sub (.bin .mul (.var 6) (.call 8 [.var 4, .var 5, .var 1])) (.bin .mul (.var 2) (.call 10 [.var 4, .var 5]))),
  .ret (.call 6 [.var 3, .neg (.call 9 [.var 5, .var 1]), .call 19 [.var 0]])]
def c_sine_sign : List Sx := [
  .par [3, 4, 5] [.idx (.var 0) (.cI 0), .slc (.var 0) true (.cI 1) true (.cI 3), .slc (.var 1) true (.cI 1) true (.cI 3)],
  .par [6, 7] [.call 9 [.var 4, .var 5], .call 8 [.var 3, .var 4, .var 5]],
  .set 2 (.tup [.bin .mul (.bin .mul (.bin .mul (.var 3) (.idx (.var 0) (.cI 3))) (.idx (.var 1) (.cI 3))) (.var 6), .bin .mul (.idx (.var 1) (.cI 3)) (.var 7)]),
  .ret (.call 7 [.var 2, .tup [.bin .mul (.neg (.idx (.var 0) (.cI 3))) (.var 7), .var 6], .call 19 [.var 0], .call 19 [.var 1]])]
def c_cosine_sign : List Sx := [
  .par [3, 4, 5] [.idx (.var 0) (.cI 0), .slc (.var 0) true (.cI 1) true (.cI 3), .slc (.var 1) true (.cI 1) true (.cI 3)],
  .par [6, 7] [.call 9 [.var 4, .var 5], .call 8 [.var 3, .var 4, .var 5]],
  .set 2 (.tup [.bin .mul (.bin .mul (.bin .mul (.var 3) (.idx (.var 0) (.cI 3))) (.idx (.var 1) (.cI 3))) (.var 7), .bin .mul (.bin .mul (.neg (.var 3)) (.idx (.var 1) (.cI 3))) (.var 6)]),
  .ret (.call 7 [.var 2, .tup [.bin .mul (.bin .mul (.var 3) (.idx (.var 0) (.cI 3))) (.var 6), .var 7], .call 19 [.var 0], .call 19 [.var 1]])]
def c_are_one : List Sx := [
  .ret (.and [.cmp .eq (.call 22 [.var 0, .var 1]) (.cI 0), .cmp .gt (.call 23 [.var 0, .var 1]) (.cI 0)])]
def c_quarter_of : List Sx := [
  .set 1 (.call 21 [.var 0, .tup [.cI 0, .cI 1], .cI 0]),
  .iff (.cmp .eq (.var 1) (.cI 0)) [.ret (.ite (.cmp .gt (.call 21 [.var 0, .tup [.cI 1, .cI 0], .cI 0]) (.cI 0)) (.cI 0) (.cI 2))] [],
  .ret (.ite (.cmp .gt (.var 1) (.cI 0)) (.cI 1) (.cI 3))]
def c_comes_before : List Sx := [
  .par [2, 3] [.call 25 [.var 0], .call 25 [.var 1]],
  .iff (.cmp .ne (.var 2) (.var 3)) [.ret (.cmp .lt (.var 2) (.var 3))] [],
  .ret (.and [.cmp .eq (.bin .mod (.var 2) (.cI 2)) (.cI 1), .cmp .gt (.call 22 [.var 0, .var 1]) (.cI 0)])]
def c_lies_between : List Sx := [
  .iff (.or [.call 24 [.var 0, .var 1], .call 24 [.var 0, .var 2]]) [.ret (.cB false)] [],
  .iff (.call 24 [.var 1, .var 2]) [.ret (.cB true)] [],
  .par [3, 4] [.call 26 [.var 1, .var 0], .call 26 [.var 0, .var 2]],
  .ret (.ite (.call 26 [.var 1, .var 2]) (.and [.var 3, .var 4]) (.or [.var 3, .var 4]))]
def c_near_way : List Sx := [
  .par [6, 7, 8] [.idx (.var 0) (.cI 0), .slc (.var 0) true (.cI 1) true (.cI 3), .idx (.var 0) (.cI 3)],
  .set 2 (.blt .isqrt [.bin .shl (.call 19 [.var 0]) (.bin .mul (.cI 2) (.var 1))]),
  .set 3 (.bin .add (.bin .shl (.bin .mul (.bin .mul (.var 6) (.var 8)) (.idx (.var 7) (.cI 0))) (.var 1)) (.bin .mul (.bin .mul (.var 6) (.idx (.var 7) (.cI 1))) (.var 2))),
  .set 4 (.bin .sub (.bin .shl (.bin .mul (.bin .mul (.var 6) (.var 8)) (.idx (.var 7) (.cI 1))) (.var 1)) (.bin .mul (.idx (.var 7) (.cI 0)) (.var 2))),
  .set 5 (.bin .mul (.var 6) (.call 10 [.var 6, .var 7])),
  .ret (.tup [.bin .fdiv (.var 3) (.var 5), .bin .fdiv (.var 4) (.var 5)])]
def c_way_within : List Sx := [
  .set 2 (.glo 1),
  .whl (.cB true) [.par [5, 6] [.call 28 [.var 0, .var 2], .call 28 [.var 1, .var 2]], .set 3 (.tup [.bin .add (.idx (.var 5) (.cI 0)) (.idx (.var 6) (.cI 0)), .bin .add (.idx (.var 5) (.cI 1)) (.idx (.var 6) (.cI 1))]), .fors (.nm 4) .seq [.lst [.var 3, .tup [.neg (.idx (.var 3) (.cI 0)), .neg (.idx (.var 3) (.cI 1))], .tup [.bin .mul (.neg (.idx (.var 0) (.cI 0))) (.idx (.var 5) (.cI 1)), .idx (.var 5) (.cI 0)], .tup [.neg (.idx (.var 5) (.cI 0)), .neg (.idx (.var 5) (.cI 1))]]] [.iff (.and [.cmp .ne (.var 4) (.tup [.cI 0, .cI 0]), .call 27 [.call 20 [.idx (.var 0) (.cI 0), .var 4], .var 0, .var 1]]) [.ret (.call 4 [.var 4])] []], .set 2 (.bin .mul (.cI 2) (.var 2))]]
def c_turned_by : List Sx := [
  .par [3, 4] [.bin .sub (.bin .mul (.idx (.var 2) (.cI 0)) (.idx (.var 2) (.cI 0))) (.bin .mul (.bin .mul (.var 0) (.idx (.var 2) (.cI 1))) (.idx (.var 2) (.cI 1))), .bin .mul (.bin .mul (.cI 2) (.idx (.var 2) (.cI 0))) (.idx (.var 2) (.cI 1))],
  .ret (.tup [.bin .sub (.bin .mul (.var 3) (.idx (.var 1) (.cI 0))) (.bin .mul (.bin .mul (.var 0) (.var 4)) (.idx (.var 1) (.cI 1))), .bin .add (.bin .mul (.var 4) (.idx (.var 1) (.cI 0))) (.bin .mul (.var 3) (.idx (.var 1) (.cI 1)))])]
def c_factor_of : List Sx := [
  .ret (.bin .add (.bin .mul (.idx (.var 1) (.cI 0)) (.idx (.var 1) (.cI 0))) (.bin .mul (.bin .mul (.var 0) (.idx (.var 1) (.cI 1))) (.idx (.var 1) (.cI 1))))]
def c_way_angle : List Sx := [
  .exp (.call 14 [.var 0]),
  .exp (.call 17 [.var 1]),
  .ret (.call 20 [.var 0, .var 1])]
def c_is_same_place : List Sx := [
  .exp (.call 15 [.var 0]),
  .exp (.call 15 [.var 1]),
  .exp (.call 18 [.var 1, .idx (.var 0) (.cI 0)]),
  .ret (.call 24 [.var 0, .var 1])]
def c_is_between_places : List Sx := [
  .exp (.call 15 [.var 0]),
  .exp (.call 15 [.var 1]),
  .exp (.call 15 [.var 2]),
  .exp (.call 18 [.var 1, .idx (.var 0) (.cI 0)]),
  .exp (.call 18 [.var 2, .idx (.var 0) (.cI 0)]),
  .ret (.call 27 [.var 0, .var 1, .var 2])]
def c_way_between : List Sx := [
  .exp (.call 15 [.var 0]),
  .exp (.call 15 [.var 1]),
  .exp (.call 18 [.var 1, .idx (.var 0) (.cI 0)]),
  .ret (.call 29 [.var 0, .var 1])]
def c_turn_sign : List Sx := [
  .par [2, 3] [.cmp .lt (.idx (.var 0) (.cI 1)) (.cI 0), .cmp .lt (.idx (.var 1) (.cI 1)) (.cI 0)],
  .iff (.cmp .ne (.var 2) (.var 3)) [.ret (.ite (.var 2) (.cI 1) (.neg (.cI 1)))] [],
  .ret (.call 5 [.bin .sub (.bin .mul (.idx (.var 0) (.cI 1)) (.idx (.var 1) (.cI 0))) (.bin .mul (.idx (.var 1) (.cI 1)) (.idx (.var 0) (.cI 0)))])]
def c_turned_on : List Sx := [
  .set 2 (.call 30 [.idx (.var 0) (.cI 0), .slc (.var 0) true (.cI 1) true (.cI 3), .var 1]),
  .ret (.bin .add (.tup [.idx (.var 0) (.cI 0)]) (.call 4 [.bin .add (.var 2) (.tup [.bin .mul (.idx (.var 0) (.cI 3)) (.call 31 [.idx (.var 0) (.cI 0), .var 1])])]))]
def c_gap_sign : List Sx := [
  .set 3 (.call 37 [.var 0, .var 2]),
  .iff (.call 24 [.var 3, .var 1]) [.ret (.cI 0)] [],
  .iff (.call 24 [.var 0, .var 1]) [.ret (.neg (.cI 1))] [],
  .ret (.ite (.and [.cmp .ne (.var 2) (.glo 2), .call 27 [.var 1, .var 0, .var 3]]) (.neg (.cI 1)) (.cI 1))]
def c_compare_turns : List Sx := [
  .exp (.call 16 [.var 0]),
  .exp (.call 16 [.var 1]),
  .ret (.call 36 [.var 0, .var 1])]
def c_compare_gap : List Sx := [
  .exp (.call 15 [.var 0]),
  .exp (.call 15 [.var 1]),
  .exp (.call 16 [.var 2]),
  .exp (.call 18 [.var 1, .idx (.var 0) (.cI 0)]),
  .ret (.call 38 [.var 0, .var 1, .var 2])]
def c__law_well : List Sx := [
  .set 2 (.bin .add (.cI 70001) (.bin .mul (.cI 3001) (.var 1))),
  .fors (.nm 3) .seq [.slc (.var 0) false .cN true (.cI 63)] [.set 2 (.bin .mod (.blt .int [.bin .add (.bin .add (.bin .mul (.var 2) (.cI 52021)) (.bin .mod (.blt .int [.var 3]) (.cI 2147483587))) (.cI 101)]) (.cI 2147483587))],
  .set 4 (.ite (.cmp .lt (.var 1) (.blt .len [.var 0])) (.blt .int [.idx (.var 0) (.var 1)]) (.var 2)),
  .set 5 (.ite (.or [.cmp .lt (.var 4) (.cI 0), .cmp .ge (.var 4) (.bin .pow (.cI 10) (.cI 18))]) (.blt .abs [.var 4]) (.cI 0)),
  .retL (.lstL [.var 5, .bin .mod (.blt .int [.bin .add (.bin .add (.bin .mul (.var 2) (.cI 30323)) (.bin .mul (.bin .mod (.blt .int [.var 4]) (.cI 2147483587)) (.cI 9001))) (.cI 5)]) (.cI 2147483587), .cI 0])]
def c__law_draw : List Sx := [
  .iff (.cmp .gt (.idx (.var 0) (.cI 0)) (.cI 0)) [.asgn (.tp [.sb 0 0, .nm 3]) (.blt .divmod [.idx (.var 0) (.cI 0), .var 1]), .ret (.var 3)] [],
  .asgn (.sb 0 2) (.bin .add (.idx (.var 0) (.cI 2)) (.cI 1)),
  .set 2 (.bin .add (.bin .mod (.blt .int [.idx (.var 0) (.cI 1)]) (.cI 8009)) (.cI 31013)),
  .asgn (.sb 0 1) (.bin .mod (.blt .int [.bin .add (.bin .add (.bin .mul (.idx (.var 0) (.cI 1)) (.var 2)) (.bin .mul (.cI 60101) (.idx (.var 0) (.cI 2)))) (.cI 23)]) (.cI 2147483587)),
  .ret (.bin .mod (.blt .int [.bin .fdiv (.idx (.var 0) (.cI 1)) (.cI 59)]) (.var 1))]
def c__law_pick : List Sx := [
  .ret (.idx (.var 1) (.call 42 [.var 0, .blt .len [.var 1]]))]
def c__law_rounds : List Sx := [
  .ret (.blt .max [.cI 2, .blt .min [.blt .len [.var 0], .cI 3]])]
def c__law_common : List Sx := [
  .par [2, 3] [.blt .abs [.var 0], .blt .abs [.var 1]],
  .whl (.cmp .gt (.var 3) (.cI 0)) [.par [2, 3] [.var 3, .bin .mod (.blt .int [.var 2]) (.var 3)]],
  .ret (.var 2)]
def c__law_number : List Sx := [
  .set 1 (.call 43 [.var 0, .tup [.cI 1, .cI 2, .cI 3, .cI 5, .cI 5, .cI 9, .cI 400, .cI 0]]),
  .iff (.cmp .gt (.var 1) (.cI 0)) [.ret (.bin .sub (.call 42 [.var 0, .bin .add (.bin .mul (.cI 2) (.var 1)) (.cI 1)]) (.var 1))] [],
  .ret (.bin .mul (.bin .add (.bin .mul (.call 42 [.var 0, .cI 999983]) (.cI 999983)) (.call 42 [.var 0, .cI 999983])) (.bin .sub (.cI 1) (.bin .mul (.cI 2) (.call 42 [.var 0, .cI 2]))))]
def c__law_sign : List Sx := [
  .ret (.ite (.cmp .gt (.var 0) (.cI 0)) (.cI 1) (.ite (.cmp .eq (.var 0) (.cI 0)) (.cI 0) (.neg (.cI 1))))]
def c__law_sign_of_two : List Sx := [
  .par [3, 4] [.call 47 [.var 0], .ite (.cmp .gt (.var 2) (.cI 0)) (.call 47 [.var 1]) (.cI 0)],
  .iff (.cmp .ge (.bin .mul (.var 3) (.var 4)) (.cI 0)) [.ret (.ite (.cmp .ne (.var 3) (.cI 0)) (.var 3) (.var 4))] [],
  .ret (.bin .mul (.var 3) (.call 47 [.bin .sub (.bin .mul (.var 0) (.var 0)) (.bin .mul (.bin .mul (.var 2) (.var 1)) (.var 1))]))]
def c__law_sign_of_four : List Sx := [
  .par [6, 7] [.call 48 [.var 0, .var 1, .var 4], .ite (.cmp .gt (.var 5) (.cI 0)) (.call 48 [.var 2, .var 3, .var 4]) (.cI 0)],
  .iff (.cmp .ge (.bin .mul (.var 6) (.var 7)) (.cI 0)) [.ret (.ite (.cmp .ne (.var 6) (.cI 0)) (.var 6) (.var 7))] [],
  .ret (.bin .mul (.var 6) (.call 48 [.bin .sub (.bin .add (.bin .mul (.var 0) (.var 0)) (.bin .mul (.bin .mul (.var 4) (.var 1)) (.var 1))) (.bin .mul (.var 5) (.bin .add (.bin .mul (.var 2) (.var 2)) (.bin .mul (.bin .mul (.var 4) (.var 3)) (.var 3)))), .bin .sub (.bin .mul (.bin .mul (.cI 2) (.var 0)) (.var 1)) (.bin .mul (.bin .mul (.bin .mul (.cI 2) (.var 5)) (.var 2)) (.var 3)), .var 4]))]
def c__law_norm : List Sx := [
  .ret (.bin .add (.bin .mul (.idx (.var 1) (.cI 0)) (.idx (.var 1) (.cI 0))) (.bin .mul (.bin .mul (.var 0) (.idx (.var 1) (.cI 1))) (.idx (.var 1) (.cI 1))))]
def c__law_reduced : List Sx := [
  .set 1 (.cI 0),
  .fors (.nm 2) .seq [.var 0] [.set 1 (.call 45 [.var 1, .var 2])],
  .ret (.blt .tuple [.cmpr .seq [.var 0] (.nm 2) [] (.bin .fdiv (.var 2) (.var 1)) [2]])]
def c__law_root : List Sx := [
  .par [1, 2] [.cI 0, .bin .add (.var 0) (.cI 1)],
  .whl (.cmp .gt (.bin .sub (.var 2) (.var 1)) (.cI 1)) [.set 3 (.bin .fdiv (.bin .add (.var 1) (.var 2)) (.cI 2)), .asgn (.tp [.nm 1, .nm 2]) (.ite (.cmp .le (.bin .mul (.var 3) (.var 3)) (.var 0)) (.tup [.var 3, .var 2]) (.tup [.var 1, .var 3]))],
  .ret (.var 1)]
def c__law_vector : List Sx := [
  .par [1, 2] [.call 46 [.var 0], .call 46 [.var 0]],
  .ret (.ite (.or [.cmp .ne (.var 1) (.cI 0), .cmp .ne (.var 2) (.cI 0)]) (.tup [.var 1, .var 2]) (.tup [.cI 1, .bin .sub (.call 42 [.var 0, .cI 3]) (.cI 1)]))]
def c__law_arrow : List Sx := [
  .asgn (.tp [.nm 2, .nm 3, .nm 4, .nm 5]) (.var 0),
  .set 1 (.call 50 [.var 2, .tup [.var 3, .var 4]]),
  .ret (.tup [.tup [.bin .mul (.var 5) (.var 3), .var 4], .tup [.bin .mul (.bin .mul (.var 2) (.var 5)) (.var 4), .bin .sub (.cI 0) (.var 3)], .bin .mul (.var 2) (.bin .sub (.var 1) (.bin .mul (.var 5) (.var 5))), .var 1])]
def c__law_side : List Sx := [
  .asgn (.tp [.nm 4, .nm 5, .nm 6, .nm 7]) (.call 54 [.var 0]),
  .set 3 (.bin .sub (.bin .add (.bin .mul (.idx (.var 4) (.cI 0)) (.idx (.var 1) (.cI 0))) (.bin .mul (.idx (.var 5) (.cI 0)) (.idx (.var 1) (.cI 1)))) (.bin .mul (.var 2) (.var 7))),
  .ret (.call 48 [.var 3, .bin .add (.bin .mul (.idx (.var 4) (.cI 1)) (.idx (.var 1) (.cI 0))) (.bin .mul (.idx (.var 5) (.cI 1)) (.idx (.var 1) (.cI 1))), .var 6])]
def c__law_angle_at : List Sx := [
  .set 3 (.call 52 [.call 50 [.var 0, .var 1]]),
  .par [5, 6] [.bin .add (.bin .mul (.idx (.var 1) (.cI 0)) (.idx (.var 2) (.cI 0))) (.bin .mul (.bin .mul (.var 0) (.idx (.var 1) (.cI 1))) (.idx (.var 2) (.cI 1))), .bin .sub (.bin .mul (.idx (.var 1) (.cI 0)) (.idx (.var 2) (.cI 1))) (.bin .mul (.idx (.var 1) (.cI 1)) (.idx (.var 2) (.cI 0)))],
  .iff (.cmp .eq (.var 6) (.cI 0)) [.ret (.cN)] [],
  .set 4 (.ite (.cmp .gt (.var 6) (.cI 0)) (.cI 1) (.neg (.cI 1))),
  .ret (.bin .add (.tup [.var 0]) (.call 51 [.tup [.bin .mul (.bin .mul (.var 4) (.var 3)) (.idx (.var 2) (.cI 0)), .bin .mul (.bin .mul (.var 4) (.var 3)) (.idx (.var 2) (.cI 1)), .bin .mul (.var 4) (.var 5)]]))]
def c__law_whole_way : List Sx := [
  .par [2, 3] [.call 46 [.var 0], .call 46 [.var 0]],
  .par [4, 5] [.bin .sub (.bin .mul (.var 2) (.var 2)) (.bin .mul (.bin .mul (.var 1) (.var 3)) (.var 3)), .bin .mul (.bin .mul (.cI 2) (.var 2)) (.var 3)],
  .ret (.ite (.or [.cmp .ne (.var 4) (.cI 0), .cmp .ne (.var 5) (.cI 0)]) (.call 51 [.tup [.var 4, .var 5]]) (.tup [.cI 1, .cI 0]))]
def c__law_angle : List Sx := [
  .par [4, 5] [.call 42 [.var 0, .cI 6], .call 53 [.var 0]],
  .iff (.cmp .eq (.var 4) (.cI 0)) [.ret (.bin .add (.tup [.var 1]) (.call 51 [.tup [.bin .sub (.cI 0) (.bin .mul (.var 1) (.idx (.var 5) (.cI 1))), .idx (.var 5) (.cI 0), .cI 0]]))] [],
  .iff (.cmp .eq (.var 4) (.cI 1)) [.set 6 (.call 56 [.var 1, .call 57 [.var 0, .var 1], .var 5]), .ret (.ite (.cmp .isnt (.var 6) (.cN)) (.var 6) (.tup [.var 1, .cI 0, .cI 1, .cI 0]))] [],
  .set 2 (.call 52 [.bin .sub (.call 50 [.var 1, .var 5]) (.cI 1)]),
  .set 3 (.ite (.cmp .eq (.var 4) (.cI 2)) (.bin .mul (.var 2) (.bin .sub (.cI 1) (.bin .mul (.cI 2) (.call 42 [.var 0, .cI 2])))) (.bin .sub (.call 42 [.var 0, .bin .add (.bin .mul (.cI 2) (.var 2)) (.cI 1)]) (.var 2))),
  .ret (.bin .add (.tup [.var 1]) (.call 51 [.bin .add (.var 5) (.tup [.var 3])]))]
def c__law_sine : List Sx := [
  .asgn (.tp [.tp [.nm 5, .nm 6], .tp [.nm 7, .nm 8], .nm 2, .nm 3]) (.call 54 [.var 0]),
  .asgn (.tp [.tp [.nm 9, .nm 10], .tp [.nm 11, .nm 12], .nm 4, .nm 3]) (.call 54 [.var 1]),
  .ret (.call 49 [.bin .sub (.bin .mul (.var 5) (.var 11)) (.bin .mul (.var 7) (.var 9)), .bin .sub (.bin .mul (.var 6) (.var 11)) (.bin .mul (.var 8) (.var 9)), .bin .sub (.bin .mul (.var 5) (.var 12)) (.bin .mul (.var 7) (.var 10)), .bin .sub (.bin .mul (.var 6) (.var 12)) (.bin .mul (.var 8) (.var 10)), .var 2, .var 4])]
def c__law_cosine : List Sx := [
  .asgn (.tp [.tp [.nm 8, .nm 9], .tp [.nm 10, .nm 11], .nm 3, .nm 4]) (.call 54 [.var 0]),
  .asgn (.tp [.tp [.nm 12, .nm 13], .tp [.nm 14, .nm 15], .nm 5, .nm 4]) (.call 54 [.var 1]),
  .set 2 (.idx (.var 0) (.cI 0)),
  .par [6, 7] [.bin .add (.bin .mul (.bin .mul (.var 2) (.var 8)) (.var 12)) (.bin .mul (.var 10) (.var 14)), .bin .add (.bin .mul (.bin .mul (.var 2) (.var 9)) (.var 12)) (.bin .mul (.var 11) (.var 14))],
  .ret (.call 49 [.var 6, .var 7, .bin .add (.bin .mul (.bin .mul (.var 2) (.var 8)) (.var 13)) (.bin .mul (.var 10) (.var 15)), .bin .add (.bin .mul (.bin .mul (.var 2) (.var 9)) (.var 13)) (.bin .mul (.var 11) (.var 15)), .var 3, .var 5])]
def c__law_is_same : List Sx := [
  .ret (.and [.cmp .eq (.call 59 [.var 0, .var 1]) (.cI 0), .cmp .gt (.call 60 [.var 0, .var 1]) (.cI 0)])]
def c__law_half : List Sx := [
  .set 1 (.call 55 [.var 0, .tup [.cI 0, .cI 1], .cI 0]),
  .ret (.ite (.or [.cmp .gt (.var 1) (.cI 0), .and [.cmp .eq (.var 1) (.cI 0), .cmp .gt (.call 55 [.var 0, .tup [.cI 1, .cI 0], .cI 0]) (.cI 0)]]) (.cI 0) (.cI 1))]
def c__law_is_before : List Sx := [
  .par [2, 3] [.call 62 [.var 0], .call 62 [.var 1]],
  .ret (.ite (.cmp .ne (.var 2) (.var 3)) (.cmp .lt (.var 2) (.var 3)) (.cmp .gt (.call 59 [.var 0, .var 1]) (.cI 0)))]
def c__law_is_between : List Sx := [
  .iff (.or [.call 61 [.var 0, .var 1], .call 61 [.var 0, .var 2]]) [.ret (.cB false)] [],
  .iff (.call 61 [.var 1, .var 2]) [.ret (.cB true)] [],
  .iff (.call 63 [.var 1, .var 2]) [.ret (.and [.call 63 [.var 1, .var 0], .call 63 [.var 0, .var 2]])] [],
  .ret (.or [.call 63 [.var 1, .var 0], .call 63 [.var 0, .var 2]])]
def c__law_pool : List Sx := [
  .set 3 (.call 57 [.var 0, .var 1]),
  .set 4 (.lstL [.call 58 [.var 0, .var 1]]),
  .fors (.nm 5) .rng1 [.bin .sub (.var 2) (.cI 1)] [.par [7, 8] [.call 42 [.var 0, .cI 7], .call 43 [.var 0, .var 4]], .set 6 (.call 58 [.var 0, .var 1]), .iff (.or [.cmp .eq (.var 7) (.cI 0), .cmp .eq (.var 7) (.cI 1)]) [.set 9 (.call 56 [.var 1, .var 3, .call 53 [.var 0]]), .set 6 (.ite (.cmp .isnt (.var 9) (.cN)) (.var 9) (.var 6))] [.iff (.cmp .eq (.var 7) (.cI 2)) [.set 6 (.ite (.cmp .eq (.call 42 [.var 0, .cI 2]) (.cI 0)) (.tup [.var 1, .bin .sub (.cI 0) (.idx (.var 8) (.cI 1)), .bin .sub (.cI 0) (.idx (.var 8) (.cI 2)), .idx (.var 8) (.cI 3)]) (.tup [.var 1, .bin .sub (.cI 0) (.idx (.var 8) (.cI 1)), .idx (.var 8) (.cI 2), .bin .sub (.cI 0) (.idx (.var 8) (.cI 3))]))] [.iff (.cmp .eq (.var 7) (.cI 3)) [.set 10 (.call 43 [.var 0, .tup [.cI 10, .cI 1000, .bin .pow (.cI 10) (.cI 9)]]), .par [11, 12, 13] [.bin .sub (.bin .add (.bin .mul (.var 10) (.idx (.var 8) (.cI 1))) (.call 42 [.var 0, .cI 3])) (.cI 1), .bin .sub (.bin .add (.bin .mul (.var 10) (.idx (.var 8) (.cI 2))) (.call 42 [.var 0, .cI 3])) (.cI 1), .bin .mul (.var 10) (.idx (.var 8) (.cI 3))], .set 6 (.ite (.cmp .lt (.bin .mul (.var 13) (.var 13)) (.call 50 [.var 1, .tup [.var 11, .var 12]])) (.bin .add (.tup [.var 1]) (.call 51 [.tup [.var 11, .var 12, .var 13]])) (.var 8))] []]], .app 4 (.var 6)],
  .ret (.var 4)]
def c__law_turn : List Sx := [
  .par [1, 2] [.call 46 [.var 0], .call 46 [.var 0]],
  .asgn (.tp [.nm 1, .nm 2]) (.ite (.cmp .ne (.var 1) (.cI 0)) (.tup [.blt .abs [.var 1], .var 2]) (.tup [.cI 0, .cI 1])),
  .ret (.call 51 [.tup [.var 1, .ite (.cmp .ne (.var 1) (.cI 0)) (.var 2) (.cI 1)]])]
def c__law_turned : List Sx := [
  .asgn (.tp [.nm 2, .nm 3, .nm 4, .nm 5]) (.var 0),
  .asgn (.tp [.nm 6, .nm 7]) (.var 1),
  .par [8, 9, 10] [.bin .sub (.bin .mul (.var 6) (.var 6)) (.bin .mul (.bin .mul (.var 2) (.var 7)) (.var 7)), .bin .mul (.bin .mul (.cI 2) (.var 6)) (.var 7), .bin .add (.bin .mul (.var 6) (.var 6)) (.bin .mul (.bin .mul (.var 2) (.var 7)) (.var 7))],
  .ret (.bin .add (.tup [.var 2]) (.call 51 [.tup [.bin .sub (.bin .mul (.var 8) (.var 3)) (.bin .mul (.bin .mul (.var 2) (.var 9)) (.var 4)), .bin .add (.bin .mul (.var 9) (.var 3)) (.bin .mul (.var 8) (.var 4)), .bin .mul (.var 10) (.var 5)]]))]
def c__law_size_sign : List Sx := [
  .par [3, 4] [.call 67 [.tup [.var 0, .cI 0, .cI 1, .cI 0], .var 1], .call 67 [.tup [.var 0, .cI 0, .cI 1, .cI 0], .var 2]],
  .iff (.call 61 [.var 3, .var 4]) [.ret (.cI 0)] [],
  .ret (.ite (.call 63 [.var 3, .var 4]) (.neg (.cI 1)) (.cI 1))]
def c__law_gap_sign : List Sx := [
  .set 3 (.call 67 [.var 0, .var 2]),
  .iff (.call 61 [.var 3, .var 1]) [.ret (.cI 0)] [],
  .iff (.cmp .eq (.var 2) (.tup [.cI 1, .cI 0])) [.ret (.cI 1)] [],
  .ret (.ite (.or [.call 61 [.var 0, .var 1], .call 64 [.var 1, .var 0, .var 3]]) (.neg (.cI 1)) (.cI 1))]
def c__law_gaps_right : List Sx := [
  .set 3 (.bin .add (.lst [.tup [.cI 1, .cI 0], .tup [.cI 0, .cI 1], .tup [.cI 1, .cI 1], .tup [.cI 1, .neg (.cI 1)]]) (.cmpr .rng1 [.cI 3] (.nm 11) [] (.call 66 [.var 0]) [11])),
  .fors (.nm 4) .rng1 [.cI 5] [.par [8, 9] [.call 43 [.var 0, .var 3], .call 43 [.var 0, .var 3]], .set 5 (.call 68 [.var 1, .var 8, .var 9]), .iff (.cmp .ne (.rpr (.lst [.call 39 [.var 8, .var 9], .callK 39 0 [1, 0] [.var 8, .var 9]])) (.rpr (.lst [.var 5, .bin .sub (.cI 0) (.var 5)]))) [.ret (.cB false)] [], .set 6 (.call 43 [.var 0, .var 2]), .fors (.nm 7) .seq [.lst [.call 43 [.var 0, .var 2], .call 67 [.var 6, .var 8], .var 6]] [.set 5 (.call 69 [.var 6, .var 7, .var 9]), .set 10 (.lst [.call 40 [.var 6, .var 7, .var 9], .callK 40 0 [2, 1, 0] [.var 9, .var 7, .var 6]]), .iff (.cmp .ne (.rpr (.var 10)) (.rpr (.lst [.var 5, .var 5]))) [.ret (.cB false)] []]],
  .ret (.cB true)]
def c__law_is_way : List Sx := [
  .iff (.or [.not (.isi "tuple" (.var 0)), .cmp .ne (.blt .len [.var 0]) (.cI 2), .cmp .ne (.cmpr .seq [.var 0] (.nm 1) [.or [.not (.isi "int" (.var 1)), .isi "bool" (.var 1)]] (.var 1) [1]) (.lst [])]) [.ret (.cB false)] [],
  .ret (.cmp .eq (.call 45 [.idx (.var 0) (.cI 0), .idx (.var 0) (.cI 1)]) (.cI 1))]
def c__law_right : List Sx := [
  .set 1 (.call 43 [.var 0, .tup [.cI 1, .cI 2, .cI 3]]),
  .set 2 (.call 65 [.var 0, .var 1, .cI 4]),
  .fors (.nm 3) .rng1 [.cI 4] [.asgn (.tp [.nm 9, .nm 10]) (.tup [.call 43 [.var 0, .var 2], .call 43 [.var 0, .var 2]]), .setC 4 (.cmpr .seq [.var 2] (.nm 15) [] (.call 64 [.var 15, .var 9, .var 10]) [15]), .iff (.cmp .ne (.rpr (.cmpr .seq [.var 2] (.nm 15) [] (.call 34 [.var 15, .var 9, .var 10]) [15])) (.rpr (.var 4))) [.ret (.cB false)] [], .set 5 (.call 33 [.var 9, .var 10]), .fors (.nm 6) .rng1 [.cI 4] [.set 13 (.callK 34 0 [2, 0, 1] [.var 10, .var 9, .idx (.var 2) (.var 6)]), .set 14 (.or [.call 33 [.idx (.var 2) (.var 6), .var 9], .call 33 [.idx (.var 2) (.var 6), .var 10]]), .iff (.or [.cmp .eq (.ite (.var 5) (.var 13) (.or [.idx (.var 4) (.var 6), .var 13])) (.var 14), .and [.not (.var 5), .idx (.var 4) (.var 6), .var 13]]) [.ret (.cB false)] []]],
  .par [7, 8] [.call 43 [.var 0, .var 2], .call 43 [.var 0, .var 2]],
  .fors (.tp [.nm 9, .nm 10]) .seq [.tup [.tup [.var 7, .var 8], .tup [.var 8, .var 7], .tup [.var 7, .var 7]]] [.set 11 (.call 35 [.var 9, .var 10]), .iff (.or [.not (.call 71 [.var 11]), .cmp .ne (.callK 35 0 [1, 0] [.var 10, .var 9]) (.var 11)]) [.ret (.cB false)] [], .set 12 (.bin .add (.tup [.var 1]) (.call 51 [.tup [.bin .sub (.cI 0) (.bin .mul (.var 1) (.idx (.var 11) (.cI 1))), .idx (.var 11) (.cI 0), .cI 0]])), .iff (.or [.not (.call 64 [.var 12, .var 9, .var 10]), .cmp .isnt (.call 34 [.call 32 [.var 1, .var 11], .var 9, .var 10]) (.cB true)]) [.ret (.cB false)] []],
  .ret (.call 70 [.var 0, .var 1, .var 2])]
def c_law : List Sx := [
  .fors (.nm 1) .rng1 [.call 44 [.var 0]] [.iffT (.not (.call 72 [.call 41 [.var 0, .var 1]])) [.ret (.cB false)] []],
  .ret (.cB true)]
def fns : List FD := [⟨1, 1, c_is_whole⟩, ⟨3, 3, c_is_between_values⟩, ⟨2, 3, c_are_wholes⟩, ⟨1, 3, c_common⟩, ⟨1, 3, c_reduced⟩, ⟨1, 1, c_sign_of⟩, ⟨3, 5, c_root_sign⟩, ⟨4, 9, c_double_sign⟩, ⟨3, 3, c_product⟩, ⟨2, 2, c_cross⟩, ⟨2, 2, c_norm⟩, ⟨1, 1, c_is_angle⟩, ⟨1, 1, c_is_turn⟩, ⟨1, 1, c_is_way⟩, ⟨1, 1, c_check_form⟩, ⟨1, 1, c_check_angle⟩, ⟨1, 1, c_check_turn⟩, ⟨1, 1, c_check_way⟩, ⟨2, 2, c_check_form_of⟩, ⟨1, 1, c_square_at⟩, ⟨2, 2, c_place_of⟩, ⟨3, 7, c_sign_at⟩, ⟨2, 8, c_sine_sign⟩, ⟨2, 8, c_cosine_sign⟩, ⟨2, 2, c_are_one⟩, ⟨1, 2, c_quarter_of⟩, ⟨2, 4, c_comes_before⟩, ⟨3, 5, c_lies_between⟩, ⟨2, 9, c_near_way⟩, ⟨2, 7, c_way_within⟩, ⟨3, 5, c_turned_by⟩, ⟨2, 2, c_factor_of⟩, ⟨2, 2, c_way_angle⟩, ⟨2, 2, c_is_same_place⟩, ⟨3, 3, c_is_between_places⟩, ⟨2, 2, c_way_between⟩, ⟨2, 4, c_turn_sign⟩, ⟨2, 3, c_turned_on⟩, ⟨3, 4, c_gap_sign⟩, ⟨2, 2, c_compare_turns⟩, ⟨3, 3, c_compare_gap⟩, ⟨2, 6, c__law_well⟩, ⟨2, 4, c__law_draw⟩, ⟨2, 2, c__law_pick⟩, ⟨1, 1, c__law_rounds⟩, ⟨2, 4, c__law_common⟩, ⟨1, 2, c__law_number⟩, ⟨1, 1, c__law_sign⟩, ⟨3, 5, c__law_sign_of_two⟩, ⟨6, 8, c__law_sign_of_four⟩, ⟨2, 2, c__law_norm⟩, ⟨1, 3, c__law_reduced⟩, ⟨1, 4, c__law_root⟩, ⟨1, 3, c__law_vector⟩, ⟨1, 6, c__law_arrow⟩, ⟨3, 8, c__law_side⟩, ⟨3, 7, c__law_angle_at⟩, ⟨2, 6, c__law_whole_way⟩, ⟨2, 7, c__law_angle⟩, ⟨2, 13, c__law_sine⟩, ⟨2, 16, c__law_cosine⟩, ⟨2, 2, c__law_is_same⟩, ⟨1, 2, c__law_half⟩, ⟨2, 4, c__law_is_before⟩, ⟨3, 3, c__law_is_between⟩, ⟨3, 14, c__law_pool⟩, ⟨1, 3, c__law_turn⟩, ⟨2, 11, c__law_turned⟩, ⟨3, 5, c__law_size_sign⟩, ⟨3, 4, c__law_gap_sign⟩, ⟨3, 12, c__law_gaps_right⟩, ⟨1, 2, c__law_is_way⟩, ⟨1, 16, c__law_right⟩, ⟨1, 2, c_law⟩]
def fnames0 : List Str := ["is_whole", "is_between_values", "are_wholes", "common", "reduced", "sign_of", "root_sign", "double_sign", "product", "cross", "norm", "is_angle", "is_turn", "is_way", "check_form", "check_angle", "check_turn", "check_way", "check_form_of", "square_at", "place_of", "sign_at", "sine_sign", "cosine_sign", "are_one", "quarter_of", "comes_before", "lies_between", "near_way", "way_within"]
def fnames1 : List Str := ["turned_by", "factor_of", "way_angle", "is_same_place", "is_between_places", "way_between", "turn_sign", "turned_on", "gap_sign", "compare_turns", "compare_gap", "_law_well", "_law_draw", "_law_pick", "_law_rounds", "_law_common", "_law_number", "_law_sign", "_law_sign_of_two", "_law_sign_of_four", "_law_norm", "_law_reduced", "_law_root", "_law_vector", "_law_arrow", "_law_side", "_law_angle_at", "_law_whole_way", "_law_angle", "_law_sine"]
def fnames2 : List Str := ["_law_cosine", "_law_is_same", "_law_half", "_law_is_before", "_law_is_between", "_law_pool", "_law_turn", "_law_turned", "_law_size_sign", "_law_gap_sign", "_law_gaps_right", "_law_is_way", "_law_right", "law"]
def fnames : List Str := fnames0 ++ fnames1 ++ fnames2
def kwl : List (Nat × List (Nat × List Str × List Nat)) := [(34, [(0, ["low", "high", "angle"], [2, 0, 1])]), (35, [(0, ["high", "low"], [1, 0])]), (39, [(0, ["other", "turn"], [1, 0])]), (40, [(0, ["turn", "other", "angle"], [2, 1, 0])])]
def gnames : List Str := ["FORMS", "FIRST_BITS", "NOTHING"]
def gls : List PyData := [(.int 3), (.int 8), (.tuple [(.int 1), (.int 0)])]
def cnames : List Str := ["ValueError", "SteamError", "InvalidForm", "InvalidAngle", "InvalidWay", "InvalidTurn", "Unlike"]
def hasIs : List Bool := [true, false, true, true, true, true, true]
abbrev T : Tb := ⟨74, fun f => fnames.getD f "", fun f => (kwl.lookup f).getD [], fun g => gnames.getD g "", [.gcd, .isqrt], 7, fun c => cnames.getD c "", fun c => hasIs.getD c true⟩
def nms0 : List Str := ["SteamError", "InvalidForm", "InvalidAngle", "InvalidWay", "InvalidTurn", "Unlike", "is_whole", "is_between", "is_between_values", "are_wholes", "common", "reduced", "sign_of", "root_sign", "double_sign", "FORMS", "FIRST_BITS", "product", "cross", "norm", "is_angle", "is_turn", "is_way", "check_form", "check_angle", "check_turn", "check_way", "check_form_of", "square_at", "place_of"]
def nms1 : List Str := ["sign_at", "sine_sign", "cosine_sign", "are_one", "quarter_of", "comes_before", "lies_between", "near_way", "way_within", "turned_by", "factor_of", "way_angle", "is_same_place", "is_between_places", "way_between", "NOTHING", "turn_sign", "turned_on", "gap_sign", "compare_turns", "compare_gap", "_law_well", "_law_draw", "_law_pick", "_law_rounds", "_law_common", "_law_number", "_law_sign", "_law_sign_of_two", "_law_sign_of_four"]
def nms2 : List Str := ["_law_norm", "_law_reduced", "_law_root", "_law_vector", "_law_arrow", "_law_side", "_law_angle_at", "_law_whole_way", "_law_angle", "_law_sine", "_law_cosine", "_law_is_same", "_law_half", "_law_is_before", "_law_is_between", "_law_pool", "_law_turn", "_law_turned", "_law_size_sign", "_law_gap_sign", "_law_gaps_right", "_law_is_way", "_law_right"]
def nms : List Str := nms0 ++ nms1 ++ nms2
def di (i : Nat) (x q : Str) : He.DefD := ⟨(x, some "__init__"), "__init__", q, defArgs (inner (top i)), defBody (inner (top i)), defScope (inner (top i)), [], []⟩
def fnD0 : List He.DefD := [dd 9 "is_whole" "is_whole", dd 10 "is_between" "is_between_values", dd 12 "are_wholes" "are_wholes", dd 13 "common" "common", dd 14 "reduced" "reduced", dd 15 "sign_of" "sign_of", dd 16 "root_sign" "root_sign", dd 17 "double_sign" "double_sign", dd 21 "product" "product", dd 22 "cross" "cross", dd 23 "norm" "norm", dd 24 "is_angle" "is_angle", dd 25 "is_turn" "is_turn", dd 26 "is_way" "is_way", dd 27 "check_form" "check_form", dd 28 "check_angle" "check_angle", dd 29 "check_turn" "check_turn", dd 30 "check_way" "check_way", dd 31 "check_form_of" "check_form_of", dd 32 "square_at" "square_at", dd 33 "place_of" "place_of", dd 34 "sign_at" "sign_at", dd 35 "sine_sign" "sine_sign", dd 36 "cosine_sign" "cosine_sign", dd 37 "are_one" "are_one", dd 38 "quarter_of" "quarter_of", dd 39 "comes_before" "comes_before", dd 40 "lies_between" "lies_between", dd 41 "near_way" "near_way", dd 42 "way_within" "way_within"]
def fnD1 : List He.DefD := [dd 43 "turned_by" "turned_by", dd 44 "factor_of" "factor_of", dd 45 "way_angle" "way_angle", dd 47 "is_same_place" "is_same_place", dd 48 "is_between" "is_between_places", dd 50 "way_between" "way_between", dd 53 "turn_sign" "turn_sign", dd 54 "turned_on" "turned_on", dd 55 "gap_sign" "gap_sign", dd 56 "compare_turns" "compare_turns", dd 57 "compare_gap" "compare_gap", dd 59 "_law_well" "_law_well", dd 60 "_law_draw" "_law_draw", dd 61 "_law_pick" "_law_pick", dd 62 "_law_rounds" "_law_rounds", dd 63 "_law_common" "_law_common", dd 64 "_law_number" "_law_number", dd 65 "_law_sign" "_law_sign", dd 66 "_law_sign_of_two" "_law_sign_of_two", dd 67 "_law_sign_of_four" "_law_sign_of_four", dd 68 "_law_norm" "_law_norm", dd 69 "_law_reduced" "_law_reduced", dd 70 "_law_root" "_law_root", dd 71 "_law_vector" "_law_vector", dd 72 "_law_arrow" "_law_arrow", dd 73 "_law_side" "_law_side", dd 74 "_law_angle_at" "_law_angle_at", dd 75 "_law_whole_way" "_law_whole_way", dd 76 "_law_angle" "_law_angle", dd 77 "_law_sine" "_law_sine"]
def fnD2 : List He.DefD := [dd 78 "_law_cosine" "_law_cosine", dd 79 "_law_is_same" "_law_is_same", dd 80 "_law_half" "_law_half", dd 81 "_law_is_before" "_law_is_before", dd 82 "_law_is_between" "_law_is_between", dd 83 "_law_pool" "_law_pool", dd 84 "_law_turn" "_law_turn", dd 85 "_law_turned" "_law_turned", dd 86 "_law_size_sign" "_law_size_sign", dd 87 "_law_gap_sign" "_law_gap_sign", dd 88 "_law_gaps_right" "_law_gaps_right", dd 89 "_law_is_way" "_law_is_way", dd 90 "_law_right" "_law_right", dd 91 "law" "law", di 3 "InvalidForm" "InvalidForm.__init__", di 4 "InvalidAngle" "InvalidAngle.__init__", di 5 "InvalidWay" "InvalidWay.__init__", di 6 "InvalidTurn" "InvalidTurn.__init__", di 7 "Unlike" "Unlike.__init__"]
def fnD : List He.DefD := fnD0 ++ fnD1 ++ fnD2
def as : List Addr := [3, 1, 157, 156, 164, 163, 169, 168, 176, 175, 181, 180, 188, 187, 195, 194, 202, 201, 209, 208, 216, 215, 223, 222, 230, 229, 237, 236, 244, 243, 251, 250, 258, 257, 265, 264, 272, 271, 279, 278, 286, 285, 293, 292, 300, 299, 307, 306, 314, 313, 321, 320, 328, 327, 335, 334, 342, 341, 349, 348, 356, 355, 363, 362, 370, 369, 377, 376, 384, 383, 391, 390, 398, 397, 406, 405, 413, 412, 420, 419, 427, 426, 434, 433, 441, 440, 448, 447, 455, 454, 462, 461, 469, 468, 476, 475, 483, 482, 490, 489, 497, 496, 504, 503, 509, 508, 516, 515, 523, 522, 530, 529, 537, 536, 544, 543, 551, 550, 558, 557, 565, 564, 572, 571, 579, 578, 586, 585, 593, 592, 600, 599, 607, 606, 614, 613, 621, 620, 628, 627, 635, 634, 640, 639, 645, 644, 650, 649, 657, 656, 399, 52, 51, 50, 53, 72, 71, 69, 68, 70, 91, 90, 88, 87, 89, 110, 109, 107, 106, 108, 129, 128, 126, 125, 127, 148, 147, 145, 144, 146]
abbrev R : PySem.W.OpenRow := PySem.W.OpenLaw.row PySem.Challenge.rw_steamgears_k07_whole_places_between
abbrev hk : PySem.W.Hook := DL.hookD as T gls fnD
theorem run (w : World) : HandSHeadRun.RunEqI R (PySem.W.view R.prog [0, 91]) hk (DL.obD as T gls fnD) 3928 nms w := by
  unfold HandSHeadRun.RunEqI
  kernel_rfl
def N_is_whole : List Str := ["value"]
theorem k_is_whole : chkSs T ⟨N_is_whole, defScope (top 9), none, true⟩ c_is_whole (defBody (top 9)) = true := by decide +kernel
def N_is_between_values : List Str := ["value", "low", "high"]
theorem k_is_between_values : chkSs T ⟨N_is_between_values, defScope (top 10), none, true⟩ c_is_between_values (defBody (top 10)) = true := by decide +kernel
def N_are_wholes : List Str := ["value", "size", "number"]
theorem k_are_wholes : chkSs T ⟨N_are_wholes, defScope (top 12), none, true⟩ c_are_wholes (defBody (top 12)) = true := by decide +kernel
def N_common : List Str := ["numbers", "found", "number"]
theorem k_common : chkSs T ⟨N_common, defScope (top 13), none, true⟩ c_common (defBody (top 13)) = true := by decide +kernel
def N_reduced : List Str := ["numbers", "divisor", "number"]
theorem k_reduced : chkSs T ⟨N_reduced, defScope (top 14), none, true⟩ c_reduced (defBody (top 14)) = true := by decide +kernel
def N_sign_of : List Str := ["number"]
theorem k_sign_of : chkSs T ⟨N_sign_of, defScope (top 15), none, true⟩ c_sign_of (defBody (top 15)) = true := by decide +kernel
def N_root_sign : List Str := ["plain", "times", "square", "first", "second"]
theorem k_root_sign : chkSs T ⟨N_root_sign, defScope (top 16), none, true⟩ c_root_sign (defBody (top 16)) = true := by decide +kernel
def N_double_sign : List Str := ["first", "second", "square", "other", "one", "two", "plain", "less", "mixed"]
theorem k_double_sign : chkSs T ⟨N_double_sign, defScope (top 17), none, true⟩ c_double_sign (defBody (top 17)) = true := by decide +kernel
def N_product : List Str := ["form", "vector", "other"]
theorem k_product : chkSs T ⟨N_product, defScope (top 21), none, true⟩ c_product (defBody (top 21)) = true := by decide +kernel
def N_cross : List Str := ["vector", "other"]
theorem k_cross : chkSs T ⟨N_cross, defScope (top 22), none, true⟩ c_cross (defBody (top 22)) = true := by decide +kernel
def N_norm : List Str := ["form", "vector"]
theorem k_norm : chkSs T ⟨N_norm, defScope (top 23), none, true⟩ c_norm (defBody (top 23)) = true := by decide +kernel
def N_is_angle : List Str := ["value"]
theorem k_is_angle : chkSs T ⟨N_is_angle, defScope (top 24), none, true⟩ c_is_angle (defBody (top 24)) = true := by decide +kernel
def N_is_turn : List Str := ["value"]
theorem k_is_turn : chkSs T ⟨N_is_turn, defScope (top 25), none, true⟩ c_is_turn (defBody (top 25)) = true := by decide +kernel
def N_is_way : List Str := ["value"]
theorem k_is_way : chkSs T ⟨N_is_way, defScope (top 26), none, true⟩ c_is_way (defBody (top 26)) = true := by decide +kernel
def N_check_form : List Str := ["value"]
theorem k_check_form : chkSs T ⟨N_check_form, defScope (top 27), none, true⟩ c_check_form (defBody (top 27)) = true := by decide +kernel
def N_check_angle : List Str := ["value"]
theorem k_check_angle : chkSs T ⟨N_check_angle, defScope (top 28), none, true⟩ c_check_angle (defBody (top 28)) = true := by decide +kernel
def N_check_turn : List Str := ["value"]
theorem k_check_turn : chkSs T ⟨N_check_turn, defScope (top 29), none, true⟩ c_check_turn (defBody (top 29)) = true := by decide +kernel
def N_check_way : List Str := ["value"]
theorem k_check_way : chkSs T ⟨N_check_way, defScope (top 30), none, true⟩ c_check_way (defBody (top 30)) = true := by decide +kernel
def N_check_form_of : List Str := ["angle", "form"]
theorem k_check_form_of : chkSs T ⟨N_check_form_of, defScope (top 31), none, true⟩ c_check_form_of (defBody (top 31)) = true := by decide +kernel
def N_square_at : List Str := ["angle"]
theorem k_square_at : chkSs T ⟨N_square_at, defScope (top 32), none, true⟩ c_square_at (defBody (top 32)) = true := by decide +kernel
def N_place_of : List Str := ["form", "way"]
theorem k_place_of : chkSs T ⟨N_place_of, defScope (top 33), none, true⟩ c_place_of (defBody (top 33)) = true := by decide +kernel
def N_sign_at : List Str := ["angle", "vector", "level", "plain", "form", "own", "height"]
theorem k_sign_at : chkSs T ⟨N_sign_at, defScope (top 34), none, true⟩ c_sign_at (defBody (top 34)) = true := by decide +kernel
def N_sine_sign : List Str := ["angle", "other", "first", "form", "one", "two", "across", "along"]
theorem k_sine_sign : chkSs T ⟨N_sine_sign, defScope (top 35), none, true⟩ c_sine_sign (defBody (top 35)) = true := by decide +kernel
def N_cosine_sign : List Str := ["angle", "other", "first", "form", "one", "two", "across", "along"]
theorem k_cosine_sign : chkSs T ⟨N_cosine_sign, defScope (top 36), none, true⟩ c_cosine_sign (defBody (top 36)) = true := by decide +kernel
def N_are_one : List Str := ["angle", "other"]
theorem k_are_one : chkSs T ⟨N_are_one, defScope (top 37), none, true⟩ c_are_one (defBody (top 37)) = true := by decide +kernel
def N_quarter_of : List Str := ["angle", "height"]
theorem k_quarter_of : chkSs T ⟨N_quarter_of, defScope (top 38), none, true⟩ c_quarter_of (defBody (top 38)) = true := by decide +kernel
def N_comes_before : List Str := ["angle", "other", "one", "two"]
theorem k_comes_before : chkSs T ⟨N_comes_before, defScope (top 39), none, true⟩ c_comes_before (defBody (top 39)) = true := by decide +kernel
def N_lies_between : List Str := ["angle", "low", "high", "after", "ahead"]
theorem k_lies_between : chkSs T ⟨N_lies_between, defScope (top 40), none, true⟩ c_lies_between (defBody (top 40)) = true := by decide +kernel
def N_near_way : List Str := ["angle", "bits", "root", "across", "along", "size", "form", "own", "height"]
theorem k_near_way : chkSs T ⟨N_near_way, defScope (top 41), none, true⟩ c_near_way (defBody (top 41)) = true := by decide +kernel
def N_way_within : List Str := ["low", "high", "bits", "middle", "way", "one", "two"]
theorem k_way_within : chkSs T ⟨N_way_within, defScope (top 42), none, true⟩ c_way_within (defBody (top 42)) = true := by decide +kernel
def N_turned_by : List Str := ["form", "vector", "turn", "along", "across"]
theorem k_turned_by : chkSs T ⟨N_turned_by, defScope (top 43), none, true⟩ c_turned_by (defBody (top 43)) = true := by decide +kernel
def N_factor_of : List Str := ["form", "turn"]
theorem k_factor_of : chkSs T ⟨N_factor_of, defScope (top 44), none, true⟩ c_factor_of (defBody (top 44)) = true := by decide +kernel
def N_way_angle : List Str := ["form", "way"]
theorem k_way_angle : chkSs T ⟨N_way_angle, defScope (top 45), none, true⟩ c_way_angle (defBody (top 45)) = true := by decide +kernel
def N_is_same_place : List Str := ["angle", "other"]
theorem k_is_same_place : chkSs T ⟨N_is_same_place, defScope (top 47), none, true⟩ c_is_same_place (defBody (top 47)) = true := by decide +kernel
def N_is_between_places : List Str := ["angle", "low", "high"]
theorem k_is_between_places : chkSs T ⟨N_is_between_places, defScope (top 48), none, true⟩ c_is_between_places (defBody (top 48)) = true := by decide +kernel
def N_way_between : List Str := ["low", "high"]
theorem k_way_between : chkSs T ⟨N_way_between, defScope (top 50), none, true⟩ c_way_between (defBody (top 50)) = true := by decide +kernel
def N_turn_sign : List Str := ["turn", "other", "one", "two"]
theorem k_turn_sign : chkSs T ⟨N_turn_sign, defScope (top 53), none, true⟩ c_turn_sign (defBody (top 53)) = true := by decide +kernel
def N_turned_on : List Str := ["angle", "turn", "vector"]
theorem k_turned_on : chkSs T ⟨N_turned_on, defScope (top 54), none, true⟩ c_turned_on (defBody (top 54)) = true := by decide +kernel
def N_gap_sign : List Str := ["angle", "other", "turn", "end"]
theorem k_gap_sign : chkSs T ⟨N_gap_sign, defScope (top 55), none, true⟩ c_gap_sign (defBody (top 55)) = true := by decide +kernel
def N_compare_turns : List Str := ["turn", "other"]
theorem k_compare_turns : chkSs T ⟨N_compare_turns, defScope (top 56), none, true⟩ c_compare_turns (defBody (top 56)) = true := by decide +kernel
def N_compare_gap : List Str := ["angle", "other", "turn"]
theorem k_compare_gap : chkSs T ⟨N_compare_gap, defScope (top 57), none, true⟩ c_compare_gap (defBody (top 57)) = true := by decide +kernel
def N__law_well : List Str := ["script", "spot", "mix", "cell", "own", "rest"]
theorem k__law_well : chkSs T ⟨N__law_well, defScope (top 59), none, true⟩ c__law_well (defBody (top 59)) = true := by decide +kernel
def N__law_draw : List Str := ["well", "many", "pace", "digit"]
theorem k__law_draw : chkSs T ⟨N__law_draw, defScope (top 60), none, true⟩ c__law_draw (defBody (top 60)) = true := by decide +kernel
def N__law_pick : List Str := ["well", "some"]
theorem k__law_pick : chkSs T ⟨N__law_pick, defScope (top 61), none, true⟩ c__law_pick (defBody (top 61)) = true := by decide +kernel
def N__law_rounds : List Str := ["script"]
theorem k__law_rounds : chkSs T ⟨N__law_rounds, defScope (top 62), none, true⟩ c__law_rounds (defBody (top 62)) = true := by decide +kernel
def N__law_common : List Str := ["one", "two", "left", "right"]
theorem k__law_common : chkSs T ⟨N__law_common, defScope (top 63), none, true⟩ c__law_common (defBody (top 63)) = true := by decide +kernel
def N__law_number : List Str := ["well", "size"]
theorem k__law_number : chkSs T ⟨N__law_number, defScope (top 64), none, true⟩ c__law_number (defBody (top 64)) = true := by decide +kernel
def N__law_sign : List Str := ["number"]
theorem k__law_sign : chkSs T ⟨N__law_sign, defScope (top 65), none, true⟩ c__law_sign (defBody (top 65)) = true := by decide +kernel
def N__law_sign_of_two : List Str := ["p", "q", "d", "one", "two"]
theorem k__law_sign_of_two : chkSs T ⟨N__law_sign_of_two, defScope (top 66), none, true⟩ c__law_sign_of_two (defBody (top 66)) = true := by decide +kernel
def N__law_sign_of_four : List Str := ["p", "q", "s", "t", "d", "e", "one", "two"]
theorem k__law_sign_of_four : chkSs T ⟨N__law_sign_of_four, defScope (top 67), none, true⟩ c__law_sign_of_four (defBody (top 67)) = true := by decide +kernel
def N__law_norm : List Str := ["form", "vector"]
theorem k__law_norm : chkSs T ⟨N__law_norm, defScope (top 68), none, true⟩ c__law_norm (defBody (top 68)) = true := by decide +kernel
def N__law_reduced : List Str := ["numbers", "part", "number"]
theorem k__law_reduced : chkSs T ⟨N__law_reduced, defScope (top 69), none, true⟩ c__law_reduced (defBody (top 69)) = true := by decide +kernel
def N__law_root : List Str := ["number", "low", "high", "middle"]
theorem k__law_root : chkSs T ⟨N__law_root, defScope (top 70), none, true⟩ c__law_root (defBody (top 70)) = true := by decide +kernel
def N__law_vector : List Str := ["well", "one", "two"]
theorem k__law_vector : chkSs T ⟨N__law_vector, defScope (top 71), none, true⟩ c__law_vector (defBody (top 71)) = true := by decide +kernel
def N__law_arrow : List Str := ["angle", "size", "form", "a", "b", "level"]
theorem k__law_arrow : chkSs T ⟨N__law_arrow, defScope (top 72), none, true⟩ c__law_arrow (defBody (top 72)) = true := by decide +kernel
def N__law_side : List Str := ["angle", "vector", "level", "p", "one", "two", "root", "size"]
theorem k__law_side : chkSs T ⟨N__law_side, defScope (top 73), none, true⟩ c__law_side (defBody (top 73)) = true := by decide +kernel
def N__law_angle_at : List Str := ["form", "way", "vector", "whole", "sign", "level", "rise"]
theorem k__law_angle_at : chkSs T ⟨N__law_angle_at, defScope (top 74), none, true⟩ c__law_angle_at (defBody (top 74)) = true := by decide +kernel
def N__law_whole_way : List Str := ["well", "form", "p", "q", "one", "two"]
theorem k__law_whole_way : chkSs T ⟨N__law_whole_way, defScope (top 75), none, true⟩ c__law_whole_way (defBody (top 75)) = true := by decide +kernel
def N__law_angle : List Str := ["well", "form", "most", "level", "sort", "vector", "found"]
theorem k__law_angle : chkSs T ⟨N__law_angle, defScope (top 76), none, true⟩ c__law_angle (defBody (top 76)) = true := by decide +kernel
def N__law_sine : List Str := ["angle", "other", "d", "size", "e", "p", "q", "m", "n", "s", "t", "k", "j"]
theorem k__law_sine : chkSs T ⟨N__law_sine, defScope (top 77), none, true⟩ c__law_sine (defBody (top 77)) = true := by decide +kernel
def N__law_cosine : List Str := ["angle", "other", "form", "d", "size", "e", "one", "two", "p", "q", "m", "n", "s", "t", "k", "j"]
theorem k__law_cosine : chkSs T ⟨N__law_cosine, defScope (top 78), none, true⟩ c__law_cosine (defBody (top 78)) = true := by decide +kernel
def N__law_is_same : List Str := ["angle", "other"]
theorem k__law_is_same : chkSs T ⟨N__law_is_same, defScope (top 79), none, true⟩ c__law_is_same (defBody (top 79)) = true := by decide +kernel
def N__law_half : List Str := ["angle", "up"]
theorem k__law_half : chkSs T ⟨N__law_half, defScope (top 80), none, true⟩ c__law_half (defBody (top 80)) = true := by decide +kernel
def N__law_is_before : List Str := ["angle", "other", "one", "two"]
theorem k__law_is_before : chkSs T ⟨N__law_is_before, defScope (top 81), none, true⟩ c__law_is_before (defBody (top 81)) = true := by decide +kernel
def N__law_is_between : List Str := ["angle", "low", "high"]
theorem k__law_is_between : chkSs T ⟨N__law_is_between, defScope (top 82), none, true⟩ c__law_is_between (defBody (top 82)) = true := by decide +kernel
def N__law_pool : List Str := ["well", "form", "many", "way", "found", "turn", "fresh", "sort", "old", "made", "far", "one", "two", "level"]
theorem k__law_pool : chkSs T ⟨N__law_pool, defScope (top 83), none, true⟩ c__law_pool (defBody (top 83)) = true := by decide +kernel
def N__law_turn : List Str := ["well", "one", "two"]
theorem k__law_turn : chkSs T ⟨N__law_turn, defScope (top 84), none, true⟩ c__law_turn (defBody (top 84)) = true := by decide +kernel
def N__law_turned : List Str := ["angle", "turn", "form", "a", "b", "level", "p", "q", "one", "two", "size"]
theorem k__law_turned : chkSs T ⟨N__law_turned, defScope (top 85), none, true⟩ c__law_turned (defBody (top 85)) = true := by decide +kernel
def N__law_size_sign : List Str := ["form", "turn", "other", "one", "two"]
theorem k__law_size_sign : chkSs T ⟨N__law_size_sign, defScope (top 86), none, true⟩ c__law_size_sign (defBody (top 86)) = true := by decide +kernel
def N__law_gap_sign : List Str := ["angle", "other", "turn", "end"]
theorem k__law_gap_sign : chkSs T ⟨N__law_gap_sign, defScope (top 87), none, true⟩ c__law_gap_sign (defBody (top 87)) = true := by decide +kernel
def N__law_gaps_right : List Str := ["well", "form", "some", "turns", "turn", "due", "angle", "other", "one", "two", "told", "k"]
theorem k__law_gaps_right : chkSs T ⟨N__law_gaps_right, defScope (top 88), none, true⟩ c__law_gaps_right (defBody (top 88)) = true := by decide +kernel
def N__law_is_way : List Str := ["told", "n"]
theorem k__law_is_way : chkSs T ⟨N__law_is_way, defScope (top 89), none, true⟩ c__law_is_way (defBody (top 89)) = true := by decide +kernel
def N__law_right : List Str := ["well", "form", "some", "turn", "due", "is_point", "k", "low", "high", "one", "two", "told", "middle", "back", "is_end", "angle"]
theorem k__law_right : chkSs T ⟨N__law_right, defScope (top 90), none, true⟩ c__law_right (defBody (top 90)) = true := by decide +kernel
def N_law : List Str := ["script", "spot"]
theorem k_law : chkSs T ⟨N_law, defScope (top 91), none, true⟩ c_law (defBody (top 91)) = true := by decide +kernel
section
variable {P : Program} {w : World} {K : PySem.W.Frag} {h : Heap} {mg : Str → Option Value}
theorem f_is_whole (X : K.In h) (G : h.Ns mainGlobals mg) (c : okX T gls K = true) (s : He.SaysD [] fnD K) : Fact P w K mg T fns 0 := by
  obtain ⟨fd, F⟩ := s.def_ 0 (d := dd 9 "is_whole" "is_whole") rfl
  exact ⟨_, fd, _, _, _, _, _, ["value"], N_is_whole, c_is_whole, okX_fn X G c (f := 0) (by decide), F, scope_by (by decide +kernel), rfl, by decide +kernel, k_is_whole, FunD.bindsN F fun _ _ _ _ _ _ us hl => match us, hl with | [_], _ => rfl, fun n ks pm hm => by
    have hm : (n, ks, pm) ∈ ([] : List (Nat × List Str × List Nat)) := hm
    exact absurd hm (by simp)⟩
theorem f_is_between_values (X : K.In h) (G : h.Ns mainGlobals mg) (c : okX T gls K = true) (s : He.SaysD [] fnD K) : Fact P w K mg T fns 1 := by
  obtain ⟨fd, F⟩ := s.def_ 1 (d := dd 10 "is_between" "is_between_values") rfl
  exact ⟨_, fd, _, _, _, _, _, ["value", "low", "high"], N_is_between_values, c_is_between_values, okX_fn X G c (f := 1) (by decide), F, scope_by (by decide +kernel), rfl, by decide +kernel, k_is_between_values, FunD.bindsN F fun _ _ _ _ _ _ us hl => match us, hl with | [_, _, _], _ => rfl, fun n ks pm hm => by
    have hm : (n, ks, pm) ∈ ([] : List (Nat × List Str × List Nat)) := hm
    exact absurd hm (by simp)⟩
theorem f_are_wholes (X : K.In h) (G : h.Ns mainGlobals mg) (c : okX T gls K = true) (s : He.SaysD [] fnD K) : Fact P w K mg T fns 2 := by
  obtain ⟨fd, F⟩ := s.def_ 2 (d := dd 12 "are_wholes" "are_wholes") rfl
  exact ⟨_, fd, _, _, _, _, _, ["value", "size"], N_are_wholes, c_are_wholes, okX_fn X G c (f := 2) (by decide), F, scope_by (by decide +kernel), rfl, by decide +kernel, k_are_wholes, FunD.bindsN F fun _ _ _ _ _ _ us hl => match us, hl with | [_, _], _ => rfl, fun n ks pm hm => by
    have hm : (n, ks, pm) ∈ ([] : List (Nat × List Str × List Nat)) := hm
    exact absurd hm (by simp)⟩
theorem f_common (X : K.In h) (G : h.Ns mainGlobals mg) (c : okX T gls K = true) (s : He.SaysD [] fnD K) : Fact P w K mg T fns 3 := by
  obtain ⟨fd, F⟩ := s.def_ 3 (d := dd 13 "common" "common") rfl
  exact ⟨_, fd, _, _, _, _, _, ["numbers"], N_common, c_common, okX_fn X G c (f := 3) (by decide), F, scope_by (by decide +kernel), rfl, by decide +kernel, k_common, FunD.bindsN F fun _ _ _ _ _ _ us hl => match us, hl with | [_], _ => rfl, fun n ks pm hm => by
    have hm : (n, ks, pm) ∈ ([] : List (Nat × List Str × List Nat)) := hm
    exact absurd hm (by simp)⟩
theorem f_reduced (X : K.In h) (G : h.Ns mainGlobals mg) (c : okX T gls K = true) (s : He.SaysD [] fnD K) : Fact P w K mg T fns 4 := by
  obtain ⟨fd, F⟩ := s.def_ 4 (d := dd 14 "reduced" "reduced") rfl
  exact ⟨_, fd, _, _, _, _, _, ["numbers"], N_reduced, c_reduced, okX_fn X G c (f := 4) (by decide), F, scope_by (by decide +kernel), rfl, by decide +kernel, k_reduced, FunD.bindsN F fun _ _ _ _ _ _ us hl => match us, hl with | [_], _ => rfl, fun n ks pm hm => by
    have hm : (n, ks, pm) ∈ ([] : List (Nat × List Str × List Nat)) := hm
    exact absurd hm (by simp)⟩
theorem f_sign_of (X : K.In h) (G : h.Ns mainGlobals mg) (c : okX T gls K = true) (s : He.SaysD [] fnD K) : Fact P w K mg T fns 5 := by
  obtain ⟨fd, F⟩ := s.def_ 5 (d := dd 15 "sign_of" "sign_of") rfl
  exact ⟨_, fd, _, _, _, _, _, ["number"], N_sign_of, c_sign_of, okX_fn X G c (f := 5) (by decide), F, scope_by (by decide +kernel), rfl, by decide +kernel, k_sign_of, FunD.bindsN F fun _ _ _ _ _ _ us hl => match us, hl with | [_], _ => rfl, fun n ks pm hm => by
    have hm : (n, ks, pm) ∈ ([] : List (Nat × List Str × List Nat)) := hm
    exact absurd hm (by simp)⟩
theorem f_root_sign (X : K.In h) (G : h.Ns mainGlobals mg) (c : okX T gls K = true) (s : He.SaysD [] fnD K) : Fact P w K mg T fns 6 := by
  obtain ⟨fd, F⟩ := s.def_ 6 (d := dd 16 "root_sign" "root_sign") rfl
  exact ⟨_, fd, _, _, _, _, _, ["plain", "times", "square"], N_root_sign, c_root_sign, okX_fn X G c (f := 6) (by decide), F, scope_by (by decide +kernel), rfl, by decide +kernel, k_root_sign, FunD.bindsN F fun _ _ _ _ _ _ us hl => match us, hl with | [_, _, _], _ => rfl, fun n ks pm hm => by
    have hm : (n, ks, pm) ∈ ([] : List (Nat × List Str × List Nat)) := hm
    exact absurd hm (by simp)⟩
theorem f_double_sign (X : K.In h) (G : h.Ns mainGlobals mg) (c : okX T gls K = true) (s : He.SaysD [] fnD K) : Fact P w K mg T fns 7 := by
  obtain ⟨fd, F⟩ := s.def_ 7 (d := dd 17 "double_sign" "double_sign") rfl
  exact ⟨_, fd, _, _, _, _, _, ["first", "second", "square", "other"], N_double_sign, c_double_sign, okX_fn X G c (f := 7) (by decide), F, scope_by (by decide +kernel), rfl, by decide +kernel, k_double_sign, FunD.bindsN F fun _ _ _ _ _ _ us hl => match us, hl with | [_, _, _, _], _ => rfl, fun n ks pm hm => by
    have hm : (n, ks, pm) ∈ ([] : List (Nat × List Str × List Nat)) := hm
    exact absurd hm (by simp)⟩
theorem f_product (X : K.In h) (G : h.Ns mainGlobals mg) (c : okX T gls K = true) (s : He.SaysD [] fnD K) : Fact P w K mg T fns 8 := by
  obtain ⟨fd, F⟩ := s.def_ 8 (d := dd 21 "product" "product") rfl
  exact ⟨_, fd, _, _, _, _, _, ["form", "vector", "other"], N_product, c_product, okX_fn X G c (f := 8) (by decide), F, scope_by (by decide +kernel), rfl, by decide +kernel, k_product, FunD.bindsN F fun _ _ _ _ _ _ us hl => match us, hl with | [_, _, _], _ => rfl, fun n ks pm hm => by
    have hm : (n, ks, pm) ∈ ([] : List (Nat × List Str × List Nat)) := hm
    exact absurd hm (by simp)⟩
theorem f_cross (X : K.In h) (G : h.Ns mainGlobals mg) (c : okX T gls K = true) (s : He.SaysD [] fnD K) : Fact P w K mg T fns 9 := by
  obtain ⟨fd, F⟩ := s.def_ 9 (d := dd 22 "cross" "cross") rfl
  exact ⟨_, fd, _, _, _, _, _, ["vector", "other"], N_cross, c_cross, okX_fn X G c (f := 9) (by decide), F, scope_by (by decide +kernel), rfl, by decide +kernel, k_cross, FunD.bindsN F fun _ _ _ _ _ _ us hl => match us, hl with | [_, _], _ => rfl, fun n ks pm hm => by
    have hm : (n, ks, pm) ∈ ([] : List (Nat × List Str × List Nat)) := hm
    exact absurd hm (by simp)⟩
theorem f_norm (X : K.In h) (G : h.Ns mainGlobals mg) (c : okX T gls K = true) (s : He.SaysD [] fnD K) : Fact P w K mg T fns 10 := by
  obtain ⟨fd, F⟩ := s.def_ 10 (d := dd 23 "norm" "norm") rfl
  exact ⟨_, fd, _, _, _, _, _, ["form", "vector"], N_norm, c_norm, okX_fn X G c (f := 10) (by decide), F, scope_by (by decide +kernel), rfl, by decide +kernel, k_norm, FunD.bindsN F fun _ _ _ _ _ _ us hl => match us, hl with | [_, _], _ => rfl, fun n ks pm hm => by
    have hm : (n, ks, pm) ∈ ([] : List (Nat × List Str × List Nat)) := hm
    exact absurd hm (by simp)⟩
theorem f_is_angle (X : K.In h) (G : h.Ns mainGlobals mg) (c : okX T gls K = true) (s : He.SaysD [] fnD K) : Fact P w K mg T fns 11 := by
  obtain ⟨fd, F⟩ := s.def_ 11 (d := dd 24 "is_angle" "is_angle") rfl
  exact ⟨_, fd, _, _, _, _, _, ["value"], N_is_angle, c_is_angle, okX_fn X G c (f := 11) (by decide), F, scope_by (by decide +kernel), rfl, by decide +kernel, k_is_angle, FunD.bindsN F fun _ _ _ _ _ _ us hl => match us, hl with | [_], _ => rfl, fun n ks pm hm => by
    have hm : (n, ks, pm) ∈ ([] : List (Nat × List Str × List Nat)) := hm
    exact absurd hm (by simp)⟩
theorem f_is_turn (X : K.In h) (G : h.Ns mainGlobals mg) (c : okX T gls K = true) (s : He.SaysD [] fnD K) : Fact P w K mg T fns 12 := by
  obtain ⟨fd, F⟩ := s.def_ 12 (d := dd 25 "is_turn" "is_turn") rfl
  exact ⟨_, fd, _, _, _, _, _, ["value"], N_is_turn, c_is_turn, okX_fn X G c (f := 12) (by decide), F, scope_by (by decide +kernel), rfl, by decide +kernel, k_is_turn, FunD.bindsN F fun _ _ _ _ _ _ us hl => match us, hl with | [_], _ => rfl, fun n ks pm hm => by
    have hm : (n, ks, pm) ∈ ([] : List (Nat × List Str × List Nat)) := hm
    exact absurd hm (by simp)⟩
theorem f_is_way (X : K.In h) (G : h.Ns mainGlobals mg) (c : okX T gls K = true) (s : He.SaysD [] fnD K) : Fact P w K mg T fns 13 := by
  obtain ⟨fd, F⟩ := s.def_ 13 (d := dd 26 "is_way" "is_way") rfl
  exact ⟨_, fd, _, _, _, _, _, ["value"], N_is_way, c_is_way, okX_fn X G c (f := 13) (by decide), F, scope_by (by decide +kernel), rfl, by decide +kernel, k_is_way, FunD.bindsN F fun _ _ _ _ _ _ us hl => match us, hl with | [_], _ => rfl, fun n ks pm hm => by
    have hm : (n, ks, pm) ∈ ([] : List (Nat × List Str × List Nat)) := hm
    exact absurd hm (by simp)⟩
theorem f_check_form (X : K.In h) (G : h.Ns mainGlobals mg) (c : okX T gls K = true) (s : He.SaysD [] fnD K) : Fact P w K mg T fns 14 := by
  obtain ⟨fd, F⟩ := s.def_ 14 (d := dd 27 "check_form" "check_form") rfl
  exact ⟨_, fd, _, _, _, _, _, ["value"], N_check_form, c_check_form, okX_fn X G c (f := 14) (by decide), F, scope_by (by decide +kernel), rfl, by decide +kernel, k_check_form, FunD.bindsN F fun _ _ _ _ _ _ us hl => match us, hl with | [_], _ => rfl, fun n ks pm hm => by
    have hm : (n, ks, pm) ∈ ([] : List (Nat × List Str × List Nat)) := hm
    exact absurd hm (by simp)⟩
theorem f_check_angle (X : K.In h) (G : h.Ns mainGlobals mg) (c : okX T gls K = true) (s : He.SaysD [] fnD K) : Fact P w K mg T fns 15 := by
  obtain ⟨fd, F⟩ := s.def_ 15 (d := dd 28 "check_angle" "check_angle") rfl
  exact ⟨_, fd, _, _, _, _, _, ["value"], N_check_angle, c_check_angle, okX_fn X G c (f := 15) (by decide), F, scope_by (by decide +kernel), rfl, by decide +kernel, k_check_angle, FunD.bindsN F fun _ _ _ _ _ _ us hl => match us, hl with | [_], _ => rfl, fun n ks pm hm => by
    have hm : (n, ks, pm) ∈ ([] : List (Nat × List Str × List Nat)) := hm
    exact absurd hm (by simp)⟩
theorem f_check_turn (X : K.In h) (G : h.Ns mainGlobals mg) (c : okX T gls K = true) (s : He.SaysD [] fnD K) : Fact P w K mg T fns 16 := by
  obtain ⟨fd, F⟩ := s.def_ 16 (d := dd 29 "check_turn" "check_turn") rfl
  exact ⟨_, fd, _, _, _, _, _, ["value"], N_check_turn, c_check_turn, okX_fn X G c (f := 16) (by decide), F, scope_by (by decide +kernel), rfl, by decide +kernel, k_check_turn, FunD.bindsN F fun _ _ _ _ _ _ us hl => match us, hl with | [_], _ => rfl, fun n ks pm hm => by
    have hm : (n, ks, pm) ∈ ([] : List (Nat × List Str × List Nat)) := hm
    exact absurd hm (by simp)⟩
theorem f_check_way (X : K.In h) (G : h.Ns mainGlobals mg) (c : okX T gls K = true) (s : He.SaysD [] fnD K) : Fact P w K mg T fns 17 := by
  obtain ⟨fd, F⟩ := s.def_ 17 (d := dd 30 "check_way" "check_way") rfl
  exact ⟨_, fd, _, _, _, _, _, ["value"], N_check_way, c_check_way, okX_fn X G c (f := 17) (by decide), F, scope_by (by decide +kernel), rfl, by decide +kernel, k_check_way, FunD.bindsN F fun _ _ _ _ _ _ us hl => match us, hl with | [_], _ => rfl, fun n ks pm hm => by
    have hm : (n, ks, pm) ∈ ([] : List (Nat × List Str × List Nat)) := hm
    exact absurd hm (by simp)⟩
theorem f_check_form_of (X : K.In h) (G : h.Ns mainGlobals mg) (c : okX T gls K = true) (s : He.SaysD [] fnD K) : Fact P w K mg T fns 18 := by
  obtain ⟨fd, F⟩ := s.def_ 18 (d := dd 31 "check_form_of" "check_form_of") rfl
  exact ⟨_, fd, _, _, _, _, _, ["angle", "form"], N_check_form_of, c_check_form_of, okX_fn X G c (f := 18) (by decide), F, scope_by (by decide +kernel), rfl, by decide +kernel, k_check_form_of, FunD.bindsN F fun _ _ _ _ _ _ us hl => match us, hl with | [_, _], _ => rfl, fun n ks pm hm => by
    have hm : (n, ks, pm) ∈ ([] : List (Nat × List Str × List Nat)) := hm
    exact absurd hm (by simp)⟩
theorem f_square_at (X : K.In h) (G : h.Ns mainGlobals mg) (c : okX T gls K = true) (s : He.SaysD [] fnD K) : Fact P w K mg T fns 19 := by
  obtain ⟨fd, F⟩ := s.def_ 19 (d := dd 32 "square_at" "square_at") rfl
  exact ⟨_, fd, _, _, _, _, _, ["angle"], N_square_at, c_square_at, okX_fn X G c (f := 19) (by decide), F, scope_by (by decide +kernel), rfl, by decide +kernel, k_square_at, FunD.bindsN F fun _ _ _ _ _ _ us hl => match us, hl with | [_], _ => rfl, fun n ks pm hm => by
    have hm : (n, ks, pm) ∈ ([] : List (Nat × List Str × List Nat)) := hm
    exact absurd hm (by simp)⟩
theorem f_place_of (X : K.In h) (G : h.Ns mainGlobals mg) (c : okX T gls K = true) (s : He.SaysD [] fnD K) : Fact P w K mg T fns 20 := by
  obtain ⟨fd, F⟩ := s.def_ 20 (d := dd 33 "place_of" "place_of") rfl
  exact ⟨_, fd, _, _, _, _, _, ["form", "way"], N_place_of, c_place_of, okX_fn X G c (f := 20) (by decide), F, scope_by (by decide +kernel), rfl, by decide +kernel, k_place_of, FunD.bindsN F fun _ _ _ _ _ _ us hl => match us, hl with | [_, _], _ => rfl, fun n ks pm hm => by
    have hm : (n, ks, pm) ∈ ([] : List (Nat × List Str × List Nat)) := hm
    exact absurd hm (by simp)⟩
theorem f_sign_at (X : K.In h) (G : h.Ns mainGlobals mg) (c : okX T gls K = true) (s : He.SaysD [] fnD K) : Fact P w K mg T fns 21 := by
  obtain ⟨fd, F⟩ := s.def_ 21 (d := dd 34 "sign_at" "sign_at") rfl
  exact ⟨_, fd, _, _, _, _, _, ["angle", "vector", "level"], N_sign_at, c_sign_at, okX_fn X G c (f := 21) (by decide), F, scope_by (by decide +kernel), rfl, by decide +kernel, k_sign_at, FunD.bindsN F fun _ _ _ _ _ _ us hl => match us, hl with | [_, _, _], _ => rfl, fun n ks pm hm => by
    have hm : (n, ks, pm) ∈ ([] : List (Nat × List Str × List Nat)) := hm
    exact absurd hm (by simp)⟩
theorem f_sine_sign (X : K.In h) (G : h.Ns mainGlobals mg) (c : okX T gls K = true) (s : He.SaysD [] fnD K) : Fact P w K mg T fns 22 := by
  obtain ⟨fd, F⟩ := s.def_ 22 (d := dd 35 "sine_sign" "sine_sign") rfl
  exact ⟨_, fd, _, _, _, _, _, ["angle", "other"], N_sine_sign, c_sine_sign, okX_fn X G c (f := 22) (by decide), F, scope_by (by decide +kernel), rfl, by decide +kernel, k_sine_sign, FunD.bindsN F fun _ _ _ _ _ _ us hl => match us, hl with | [_, _], _ => rfl, fun n ks pm hm => by
    have hm : (n, ks, pm) ∈ ([] : List (Nat × List Str × List Nat)) := hm
    exact absurd hm (by simp)⟩
theorem f_cosine_sign (X : K.In h) (G : h.Ns mainGlobals mg) (c : okX T gls K = true) (s : He.SaysD [] fnD K) : Fact P w K mg T fns 23 := by
  obtain ⟨fd, F⟩ := s.def_ 23 (d := dd 36 "cosine_sign" "cosine_sign") rfl
  exact ⟨_, fd, _, _, _, _, _, ["angle", "other"], N_cosine_sign, c_cosine_sign, okX_fn X G c (f := 23) (by decide), F, scope_by (by decide +kernel), rfl, by decide +kernel, k_cosine_sign, FunD.bindsN F fun _ _ _ _ _ _ us hl => match us, hl with | [_, _], _ => rfl, fun n ks pm hm => by
    have hm : (n, ks, pm) ∈ ([] : List (Nat × List Str × List Nat)) := hm
    exact absurd hm (by simp)⟩
theorem f_are_one (X : K.In h) (G : h.Ns mainGlobals mg) (c : okX T gls K = true) (s : He.SaysD [] fnD K) : Fact P w K mg T fns 24 := by
  obtain ⟨fd, F⟩ := s.def_ 24 (d := dd 37 "are_one" "are_one") rfl
  exact ⟨_, fd, _, _, _, _, _, ["angle", "other"], N_are_one, c_are_one, okX_fn X G c (f := 24) (by decide), F, scope_by (by decide +kernel), rfl, by decide +kernel, k_are_one, FunD.bindsN F fun _ _ _ _ _ _ us hl => match us, hl with | [_, _], _ => rfl, fun n ks pm hm => by
    have hm : (n, ks, pm) ∈ ([] : List (Nat × List Str × List Nat)) := hm
    exact absurd hm (by simp)⟩
theorem f_quarter_of (X : K.In h) (G : h.Ns mainGlobals mg) (c : okX T gls K = true) (s : He.SaysD [] fnD K) : Fact P w K mg T fns 25 := by
  obtain ⟨fd, F⟩ := s.def_ 25 (d := dd 38 "quarter_of" "quarter_of") rfl
  exact ⟨_, fd, _, _, _, _, _, ["angle"], N_quarter_of, c_quarter_of, okX_fn X G c (f := 25) (by decide), F, scope_by (by decide +kernel), rfl, by decide +kernel, k_quarter_of, FunD.bindsN F fun _ _ _ _ _ _ us hl => match us, hl with | [_], _ => rfl, fun n ks pm hm => by
    have hm : (n, ks, pm) ∈ ([] : List (Nat × List Str × List Nat)) := hm
    exact absurd hm (by simp)⟩
theorem f_comes_before (X : K.In h) (G : h.Ns mainGlobals mg) (c : okX T gls K = true) (s : He.SaysD [] fnD K) : Fact P w K mg T fns 26 := by
  obtain ⟨fd, F⟩ := s.def_ 26 (d := dd 39 "comes_before" "comes_before") rfl
  exact ⟨_, fd, _, _, _, _, _, ["angle", "other"], N_comes_before, c_comes_before, okX_fn X G c (f := 26) (by decide), F, scope_by (by decide +kernel), rfl, by decide +kernel, k_comes_before, FunD.bindsN F fun _ _ _ _ _ _ us hl => match us, hl with | [_, _], _ => rfl, fun n ks pm hm => by
    have hm : (n, ks, pm) ∈ ([] : List (Nat × List Str × List Nat)) := hm
    exact absurd hm (by simp)⟩
theorem f_lies_between (X : K.In h) (G : h.Ns mainGlobals mg) (c : okX T gls K = true) (s : He.SaysD [] fnD K) : Fact P w K mg T fns 27 := by
  obtain ⟨fd, F⟩ := s.def_ 27 (d := dd 40 "lies_between" "lies_between") rfl
  exact ⟨_, fd, _, _, _, _, _, ["angle", "low", "high"], N_lies_between, c_lies_between, okX_fn X G c (f := 27) (by decide), F, scope_by (by decide +kernel), rfl, by decide +kernel, k_lies_between, FunD.bindsN F fun _ _ _ _ _ _ us hl => match us, hl with | [_, _, _], _ => rfl, fun n ks pm hm => by
    have hm : (n, ks, pm) ∈ ([] : List (Nat × List Str × List Nat)) := hm
    exact absurd hm (by simp)⟩
theorem f_near_way (X : K.In h) (G : h.Ns mainGlobals mg) (c : okX T gls K = true) (s : He.SaysD [] fnD K) : Fact P w K mg T fns 28 := by
  obtain ⟨fd, F⟩ := s.def_ 28 (d := dd 41 "near_way" "near_way") rfl
  exact ⟨_, fd, _, _, _, _, _, ["angle", "bits"], N_near_way, c_near_way, okX_fn X G c (f := 28) (by decide), F, scope_by (by decide +kernel), rfl, by decide +kernel, k_near_way, FunD.bindsN F fun _ _ _ _ _ _ us hl => match us, hl with | [_, _], _ => rfl, fun n ks pm hm => by
    have hm : (n, ks, pm) ∈ ([] : List (Nat × List Str × List Nat)) := hm
    exact absurd hm (by simp)⟩
theorem f_way_within (X : K.In h) (G : h.Ns mainGlobals mg) (c : okX T gls K = true) (s : He.SaysD [] fnD K) : Fact P w K mg T fns 29 := by
  obtain ⟨fd, F⟩ := s.def_ 29 (d := dd 42 "way_within" "way_within") rfl
  exact ⟨_, fd, _, _, _, _, _, ["low", "high"], N_way_within, c_way_within, okX_fn X G c (f := 29) (by decide), F, scope_by (by decide +kernel), rfl, by decide +kernel, k_way_within, FunD.bindsN F fun _ _ _ _ _ _ us hl => match us, hl with | [_, _], _ => rfl, fun n ks pm hm => by
    have hm : (n, ks, pm) ∈ ([] : List (Nat × List Str × List Nat)) := hm
    exact absurd hm (by simp)⟩
theorem f_turned_by (X : K.In h) (G : h.Ns mainGlobals mg) (c : okX T gls K = true) (s : He.SaysD [] fnD K) : Fact P w K mg T fns 30 := by
  obtain ⟨fd, F⟩ := s.def_ 30 (d := dd 43 "turned_by" "turned_by") rfl
  exact ⟨_, fd, _, _, _, _, _, ["form", "vector", "turn"], N_turned_by, c_turned_by, okX_fn X G c (f := 30) (by decide), F, scope_by (by decide +kernel), rfl, by decide +kernel, k_turned_by, FunD.bindsN F fun _ _ _ _ _ _ us hl => match us, hl with | [_, _, _], _ => rfl, fun n ks pm hm => by
    have hm : (n, ks, pm) ∈ ([] : List (Nat × List Str × List Nat)) := hm
    exact absurd hm (by simp)⟩
theorem f_factor_of (X : K.In h) (G : h.Ns mainGlobals mg) (c : okX T gls K = true) (s : He.SaysD [] fnD K) : Fact P w K mg T fns 31 := by
  obtain ⟨fd, F⟩ := s.def_ 31 (d := dd 44 "factor_of" "factor_of") rfl
  exact ⟨_, fd, _, _, _, _, _, ["form", "turn"], N_factor_of, c_factor_of, okX_fn X G c (f := 31) (by decide), F, scope_by (by decide +kernel), rfl, by decide +kernel, k_factor_of, FunD.bindsN F fun _ _ _ _ _ _ us hl => match us, hl with | [_, _], _ => rfl, fun n ks pm hm => by
    have hm : (n, ks, pm) ∈ ([] : List (Nat × List Str × List Nat)) := hm
    exact absurd hm (by simp)⟩
theorem f_way_angle (X : K.In h) (G : h.Ns mainGlobals mg) (c : okX T gls K = true) (s : He.SaysD [] fnD K) : Fact P w K mg T fns 32 := by
  obtain ⟨fd, F⟩ := s.def_ 32 (d := dd 45 "way_angle" "way_angle") rfl
  exact ⟨_, fd, _, _, _, _, _, ["form", "way"], N_way_angle, c_way_angle, okX_fn X G c (f := 32) (by decide), F, scope_by (by decide +kernel), rfl, by decide +kernel, k_way_angle, FunD.bindsN F fun _ _ _ _ _ _ us hl => match us, hl with | [_, _], _ => rfl, fun n ks pm hm => by
    have hm : (n, ks, pm) ∈ ([] : List (Nat × List Str × List Nat)) := hm
    exact absurd hm (by simp)⟩
theorem f_is_same_place (X : K.In h) (G : h.Ns mainGlobals mg) (c : okX T gls K = true) (s : He.SaysD [] fnD K) : Fact P w K mg T fns 33 := by
  obtain ⟨fd, F⟩ := s.def_ 33 (d := dd 47 "is_same_place" "is_same_place") rfl
  exact ⟨_, fd, _, _, _, _, _, ["angle", "other"], N_is_same_place, c_is_same_place, okX_fn X G c (f := 33) (by decide), F, scope_by (by decide +kernel), rfl, by decide +kernel, k_is_same_place, FunD.bindsN F fun _ _ _ _ _ _ us hl => match us, hl with | [_, _], _ => rfl, fun n ks pm hm => by
    have hm : (n, ks, pm) ∈ ([] : List (Nat × List Str × List Nat)) := hm
    exact absurd hm (by simp)⟩
theorem f_is_between_places (X : K.In h) (G : h.Ns mainGlobals mg) (c : okX T gls K = true) (s : He.SaysD [] fnD K) : Fact P w K mg T fns 34 := by
  obtain ⟨fd, F⟩ := s.def_ 34 (d := dd 48 "is_between" "is_between_places") rfl
  exact ⟨_, fd, _, _, _, _, _, ["angle", "low", "high"], N_is_between_places, c_is_between_places, okX_fn X G c (f := 34) (by decide), F, scope_by (by decide +kernel), rfl, by decide +kernel, k_is_between_places, FunD.bindsN F fun _ _ _ _ _ _ us hl => match us, hl with | [_, _, _], _ => rfl, fun n ks pm hm => by
    have hm : (n, ks, pm) ∈ [(0, [("low" : Str), ("high" : Str), ("angle" : Str)], [2, 0, 1])] := hm
    simp only [List.mem_cons, List.not_mem_nil, or_false, Prod.mk.injEq] at hm
    rcases hm with ⟨rfl, rfl, rfl⟩
    · exact kwTo_of F fun kV doc pmv an cdv ct us ws vs h1 h2 h3 => match us, ws, h1, h2, h3 with
        | [], [_, _, _], _, _, h3 => by cases h3; rfl⟩
theorem f_way_between (X : K.In h) (G : h.Ns mainGlobals mg) (c : okX T gls K = true) (s : He.SaysD [] fnD K) : Fact P w K mg T fns 35 := by
  obtain ⟨fd, F⟩ := s.def_ 35 (d := dd 50 "way_between" "way_between") rfl
  exact ⟨_, fd, _, _, _, _, _, ["low", "high"], N_way_between, c_way_between, okX_fn X G c (f := 35) (by decide), F, scope_by (by decide +kernel), rfl, by decide +kernel, k_way_between, FunD.bindsN F fun _ _ _ _ _ _ us hl => match us, hl with | [_, _], _ => rfl, fun n ks pm hm => by
    have hm : (n, ks, pm) ∈ [(0, [("high" : Str), ("low" : Str)], [1, 0])] := hm
    simp only [List.mem_cons, List.not_mem_nil, or_false, Prod.mk.injEq] at hm
    rcases hm with ⟨rfl, rfl, rfl⟩
    · exact kwTo_of F fun kV doc pmv an cdv ct us ws vs h1 h2 h3 => match us, ws, h1, h2, h3 with
        | [], [_, _], _, _, h3 => by cases h3; rfl⟩
theorem f_turn_sign (X : K.In h) (G : h.Ns mainGlobals mg) (c : okX T gls K = true) (s : He.SaysD [] fnD K) : Fact P w K mg T fns 36 := by
  obtain ⟨fd, F⟩ := s.def_ 36 (d := dd 53 "turn_sign" "turn_sign") rfl
  exact ⟨_, fd, _, _, _, _, _, ["turn", "other"], N_turn_sign, c_turn_sign, okX_fn X G c (f := 36) (by decide), F, scope_by (by decide +kernel), rfl, by decide +kernel, k_turn_sign, FunD.bindsN F fun _ _ _ _ _ _ us hl => match us, hl with | [_, _], _ => rfl, fun n ks pm hm => by
    have hm : (n, ks, pm) ∈ ([] : List (Nat × List Str × List Nat)) := hm
    exact absurd hm (by simp)⟩
theorem f_turned_on (X : K.In h) (G : h.Ns mainGlobals mg) (c : okX T gls K = true) (s : He.SaysD [] fnD K) : Fact P w K mg T fns 37 := by
  obtain ⟨fd, F⟩ := s.def_ 37 (d := dd 54 "turned_on" "turned_on") rfl
  exact ⟨_, fd, _, _, _, _, _, ["angle", "turn"], N_turned_on, c_turned_on, okX_fn X G c (f := 37) (by decide), F, scope_by (by decide +kernel), rfl, by decide +kernel, k_turned_on, FunD.bindsN F fun _ _ _ _ _ _ us hl => match us, hl with | [_, _], _ => rfl, fun n ks pm hm => by
    have hm : (n, ks, pm) ∈ ([] : List (Nat × List Str × List Nat)) := hm
    exact absurd hm (by simp)⟩
theorem f_gap_sign (X : K.In h) (G : h.Ns mainGlobals mg) (c : okX T gls K = true) (s : He.SaysD [] fnD K) : Fact P w K mg T fns 38 := by
  obtain ⟨fd, F⟩ := s.def_ 38 (d := dd 55 "gap_sign" "gap_sign") rfl
  exact ⟨_, fd, _, _, _, _, _, ["angle", "other", "turn"], N_gap_sign, c_gap_sign, okX_fn X G c (f := 38) (by decide), F, scope_by (by decide +kernel), rfl, by decide +kernel, k_gap_sign, FunD.bindsN F fun _ _ _ _ _ _ us hl => match us, hl with | [_, _, _], _ => rfl, fun n ks pm hm => by
    have hm : (n, ks, pm) ∈ ([] : List (Nat × List Str × List Nat)) := hm
    exact absurd hm (by simp)⟩
theorem f_compare_turns (X : K.In h) (G : h.Ns mainGlobals mg) (c : okX T gls K = true) (s : He.SaysD [] fnD K) : Fact P w K mg T fns 39 := by
  obtain ⟨fd, F⟩ := s.def_ 39 (d := dd 56 "compare_turns" "compare_turns") rfl
  exact ⟨_, fd, _, _, _, _, _, ["turn", "other"], N_compare_turns, c_compare_turns, okX_fn X G c (f := 39) (by decide), F, scope_by (by decide +kernel), rfl, by decide +kernel, k_compare_turns, FunD.bindsN F fun _ _ _ _ _ _ us hl => match us, hl with | [_, _], _ => rfl, fun n ks pm hm => by
    have hm : (n, ks, pm) ∈ [(0, [("other" : Str), ("turn" : Str)], [1, 0])] := hm
    simp only [List.mem_cons, List.not_mem_nil, or_false, Prod.mk.injEq] at hm
    rcases hm with ⟨rfl, rfl, rfl⟩
    · exact kwTo_of F fun kV doc pmv an cdv ct us ws vs h1 h2 h3 => match us, ws, h1, h2, h3 with
        | [], [_, _], _, _, h3 => by cases h3; rfl⟩
theorem f_compare_gap (X : K.In h) (G : h.Ns mainGlobals mg) (c : okX T gls K = true) (s : He.SaysD [] fnD K) : Fact P w K mg T fns 40 := by
  obtain ⟨fd, F⟩ := s.def_ 40 (d := dd 57 "compare_gap" "compare_gap") rfl
  exact ⟨_, fd, _, _, _, _, _, ["angle", "other", "turn"], N_compare_gap, c_compare_gap, okX_fn X G c (f := 40) (by decide), F, scope_by (by decide +kernel), rfl, by decide +kernel, k_compare_gap, FunD.bindsN F fun _ _ _ _ _ _ us hl => match us, hl with | [_, _, _], _ => rfl, fun n ks pm hm => by
    have hm : (n, ks, pm) ∈ [(0, [("turn" : Str), ("other" : Str), ("angle" : Str)], [2, 1, 0])] := hm
    simp only [List.mem_cons, List.not_mem_nil, or_false, Prod.mk.injEq] at hm
    rcases hm with ⟨rfl, rfl, rfl⟩
    · exact kwTo_of F fun kV doc pmv an cdv ct us ws vs h1 h2 h3 => match us, ws, h1, h2, h3 with
        | [], [_, _, _], _, _, h3 => by cases h3; rfl⟩
theorem f__law_well (X : K.In h) (G : h.Ns mainGlobals mg) (c : okX T gls K = true) (s : He.SaysD [] fnD K) : Fact P w K mg T fns 41 := by
  obtain ⟨fd, F⟩ := s.def_ 41 (d := dd 59 "_law_well" "_law_well") rfl
  exact ⟨_, fd, _, _, _, _, _, ["script", "spot"], N__law_well, c__law_well, okX_fn X G c (f := 41) (by decide), F, scope_by (by decide +kernel), rfl, by decide +kernel, k__law_well, FunD.bindsN F fun _ _ _ _ _ _ us hl => match us, hl with | [_, _], _ => rfl, fun n ks pm hm => by
    have hm : (n, ks, pm) ∈ ([] : List (Nat × List Str × List Nat)) := hm
    exact absurd hm (by simp)⟩
theorem f__law_draw (X : K.In h) (G : h.Ns mainGlobals mg) (c : okX T gls K = true) (s : He.SaysD [] fnD K) : Fact P w K mg T fns 42 := by
  obtain ⟨fd, F⟩ := s.def_ 42 (d := dd 60 "_law_draw" "_law_draw") rfl
  exact ⟨_, fd, _, _, _, _, _, ["well", "many"], N__law_draw, c__law_draw, okX_fn X G c (f := 42) (by decide), F, scope_by (by decide +kernel), rfl, by decide +kernel, k__law_draw, FunD.bindsN F fun _ _ _ _ _ _ us hl => match us, hl with | [_, _], _ => rfl, fun n ks pm hm => by
    have hm : (n, ks, pm) ∈ ([] : List (Nat × List Str × List Nat)) := hm
    exact absurd hm (by simp)⟩
theorem f__law_pick (X : K.In h) (G : h.Ns mainGlobals mg) (c : okX T gls K = true) (s : He.SaysD [] fnD K) : Fact P w K mg T fns 43 := by
  obtain ⟨fd, F⟩ := s.def_ 43 (d := dd 61 "_law_pick" "_law_pick") rfl
  exact ⟨_, fd, _, _, _, _, _, ["well", "some"], N__law_pick, c__law_pick, okX_fn X G c (f := 43) (by decide), F, scope_by (by decide +kernel), rfl, by decide +kernel, k__law_pick, FunD.bindsN F fun _ _ _ _ _ _ us hl => match us, hl with | [_, _], _ => rfl, fun n ks pm hm => by
    have hm : (n, ks, pm) ∈ ([] : List (Nat × List Str × List Nat)) := hm
    exact absurd hm (by simp)⟩
theorem f__law_rounds (X : K.In h) (G : h.Ns mainGlobals mg) (c : okX T gls K = true) (s : He.SaysD [] fnD K) : Fact P w K mg T fns 44 := by
  obtain ⟨fd, F⟩ := s.def_ 44 (d := dd 62 "_law_rounds" "_law_rounds") rfl
  exact ⟨_, fd, _, _, _, _, _, ["script"], N__law_rounds, c__law_rounds, okX_fn X G c (f := 44) (by decide), F, scope_by (by decide +kernel), rfl, by decide +kernel, k__law_rounds, FunD.bindsN F fun _ _ _ _ _ _ us hl => match us, hl with | [_], _ => rfl, fun n ks pm hm => by
    have hm : (n, ks, pm) ∈ ([] : List (Nat × List Str × List Nat)) := hm
    exact absurd hm (by simp)⟩
theorem f__law_common (X : K.In h) (G : h.Ns mainGlobals mg) (c : okX T gls K = true) (s : He.SaysD [] fnD K) : Fact P w K mg T fns 45 := by
  obtain ⟨fd, F⟩ := s.def_ 45 (d := dd 63 "_law_common" "_law_common") rfl
  exact ⟨_, fd, _, _, _, _, _, ["one", "two"], N__law_common, c__law_common, okX_fn X G c (f := 45) (by decide), F, scope_by (by decide +kernel), rfl, by decide +kernel, k__law_common, FunD.bindsN F fun _ _ _ _ _ _ us hl => match us, hl with | [_, _], _ => rfl, fun n ks pm hm => by
    have hm : (n, ks, pm) ∈ ([] : List (Nat × List Str × List Nat)) := hm
    exact absurd hm (by simp)⟩
theorem f__law_number (X : K.In h) (G : h.Ns mainGlobals mg) (c : okX T gls K = true) (s : He.SaysD [] fnD K) : Fact P w K mg T fns 46 := by
  obtain ⟨fd, F⟩ := s.def_ 46 (d := dd 64 "_law_number" "_law_number") rfl
  exact ⟨_, fd, _, _, _, _, _, ["well"], N__law_number, c__law_number, okX_fn X G c (f := 46) (by decide), F, scope_by (by decide +kernel), rfl, by decide +kernel, k__law_number, FunD.bindsN F fun _ _ _ _ _ _ us hl => match us, hl with | [_], _ => rfl, fun n ks pm hm => by
    have hm : (n, ks, pm) ∈ ([] : List (Nat × List Str × List Nat)) := hm
    exact absurd hm (by simp)⟩
theorem f__law_sign (X : K.In h) (G : h.Ns mainGlobals mg) (c : okX T gls K = true) (s : He.SaysD [] fnD K) : Fact P w K mg T fns 47 := by
  obtain ⟨fd, F⟩ := s.def_ 47 (d := dd 65 "_law_sign" "_law_sign") rfl
  exact ⟨_, fd, _, _, _, _, _, ["number"], N__law_sign, c__law_sign, okX_fn X G c (f := 47) (by decide), F, scope_by (by decide +kernel), rfl, by decide +kernel, k__law_sign, FunD.bindsN F fun _ _ _ _ _ _ us hl => match us, hl with | [_], _ => rfl, fun n ks pm hm => by
    have hm : (n, ks, pm) ∈ ([] : List (Nat × List Str × List Nat)) := hm
    exact absurd hm (by simp)⟩
theorem f__law_sign_of_two (X : K.In h) (G : h.Ns mainGlobals mg) (c : okX T gls K = true) (s : He.SaysD [] fnD K) : Fact P w K mg T fns 48 := by
  obtain ⟨fd, F⟩ := s.def_ 48 (d := dd 66 "_law_sign_of_two" "_law_sign_of_two") rfl
  exact ⟨_, fd, _, _, _, _, _, ["p", "q", "d"], N__law_sign_of_two, c__law_sign_of_two, okX_fn X G c (f := 48) (by decide), F, scope_by (by decide +kernel), rfl, by decide +kernel, k__law_sign_of_two, FunD.bindsN F fun _ _ _ _ _ _ us hl => match us, hl with | [_, _, _], _ => rfl, fun n ks pm hm => by
    have hm : (n, ks, pm) ∈ ([] : List (Nat × List Str × List Nat)) := hm
    exact absurd hm (by simp)⟩
theorem f__law_sign_of_four (X : K.In h) (G : h.Ns mainGlobals mg) (c : okX T gls K = true) (s : He.SaysD [] fnD K) : Fact P w K mg T fns 49 := by
  obtain ⟨fd, F⟩ := s.def_ 49 (d := dd 67 "_law_sign_of_four" "_law_sign_of_four") rfl
  exact ⟨_, fd, _, _, _, _, _, ["p", "q", "s", "t", "d", "e"], N__law_sign_of_four, c__law_sign_of_four, okX_fn X G c (f := 49) (by decide), F, scope_by (by decide +kernel), rfl, by decide +kernel, k__law_sign_of_four, FunD.bindsN F fun _ _ _ _ _ _ us hl => match us, hl with | [_, _, _, _, _, _], _ => rfl, fun n ks pm hm => by
    have hm : (n, ks, pm) ∈ ([] : List (Nat × List Str × List Nat)) := hm
    exact absurd hm (by simp)⟩
theorem f__law_norm (X : K.In h) (G : h.Ns mainGlobals mg) (c : okX T gls K = true) (s : He.SaysD [] fnD K) : Fact P w K mg T fns 50 := by
  obtain ⟨fd, F⟩ := s.def_ 50 (d := dd 68 "_law_norm" "_law_norm") rfl
  exact ⟨_, fd, _, _, _, _, _, ["form", "vector"], N__law_norm, c__law_norm, okX_fn X G c (f := 50) (by decide), F, scope_by (by decide +kernel), rfl, by decide +kernel, k__law_norm, FunD.bindsN F fun _ _ _ _ _ _ us hl => match us, hl with | [_, _], _ => rfl, fun n ks pm hm => by
    have hm : (n, ks, pm) ∈ ([] : List (Nat × List Str × List Nat)) := hm
    exact absurd hm (by simp)⟩
theorem f__law_reduced (X : K.In h) (G : h.Ns mainGlobals mg) (c : okX T gls K = true) (s : He.SaysD [] fnD K) : Fact P w K mg T fns 51 := by
  obtain ⟨fd, F⟩ := s.def_ 51 (d := dd 69 "_law_reduced" "_law_reduced") rfl
  exact ⟨_, fd, _, _, _, _, _, ["numbers"], N__law_reduced, c__law_reduced, okX_fn X G c (f := 51) (by decide), F, scope_by (by decide +kernel), rfl, by decide +kernel, k__law_reduced, FunD.bindsN F fun _ _ _ _ _ _ us hl => match us, hl with | [_], _ => rfl, fun n ks pm hm => by
    have hm : (n, ks, pm) ∈ ([] : List (Nat × List Str × List Nat)) := hm
    exact absurd hm (by simp)⟩
theorem f__law_root (X : K.In h) (G : h.Ns mainGlobals mg) (c : okX T gls K = true) (s : He.SaysD [] fnD K) : Fact P w K mg T fns 52 := by
  obtain ⟨fd, F⟩ := s.def_ 52 (d := dd 70 "_law_root" "_law_root") rfl
  exact ⟨_, fd, _, _, _, _, _, ["number"], N__law_root, c__law_root, okX_fn X G c (f := 52) (by decide), F, scope_by (by decide +kernel), rfl, by decide +kernel, k__law_root, FunD.bindsN F fun _ _ _ _ _ _ us hl => match us, hl with | [_], _ => rfl, fun n ks pm hm => by
    have hm : (n, ks, pm) ∈ ([] : List (Nat × List Str × List Nat)) := hm
    exact absurd hm (by simp)⟩
theorem f__law_vector (X : K.In h) (G : h.Ns mainGlobals mg) (c : okX T gls K = true) (s : He.SaysD [] fnD K) : Fact P w K mg T fns 53 := by
  obtain ⟨fd, F⟩ := s.def_ 53 (d := dd 71 "_law_vector" "_law_vector") rfl
  exact ⟨_, fd, _, _, _, _, _, ["well"], N__law_vector, c__law_vector, okX_fn X G c (f := 53) (by decide), F, scope_by (by decide +kernel), rfl, by decide +kernel, k__law_vector, FunD.bindsN F fun _ _ _ _ _ _ us hl => match us, hl with | [_], _ => rfl, fun n ks pm hm => by
    have hm : (n, ks, pm) ∈ ([] : List (Nat × List Str × List Nat)) := hm
    exact absurd hm (by simp)⟩
theorem f__law_arrow (X : K.In h) (G : h.Ns mainGlobals mg) (c : okX T gls K = true) (s : He.SaysD [] fnD K) : Fact P w K mg T fns 54 := by
  obtain ⟨fd, F⟩ := s.def_ 54 (d := dd 72 "_law_arrow" "_law_arrow") rfl
  exact ⟨_, fd, _, _, _, _, _, ["angle"], N__law_arrow, c__law_arrow, okX_fn X G c (f := 54) (by decide), F, scope_by (by decide +kernel), rfl, by decide +kernel, k__law_arrow, FunD.bindsN F fun _ _ _ _ _ _ us hl => match us, hl with | [_], _ => rfl, fun n ks pm hm => by
    have hm : (n, ks, pm) ∈ ([] : List (Nat × List Str × List Nat)) := hm
    exact absurd hm (by simp)⟩
theorem f__law_side (X : K.In h) (G : h.Ns mainGlobals mg) (c : okX T gls K = true) (s : He.SaysD [] fnD K) : Fact P w K mg T fns 55 := by
  obtain ⟨fd, F⟩ := s.def_ 55 (d := dd 73 "_law_side" "_law_side") rfl
  exact ⟨_, fd, _, _, _, _, _, ["angle", "vector", "level"], N__law_side, c__law_side, okX_fn X G c (f := 55) (by decide), F, scope_by (by decide +kernel), rfl, by decide +kernel, k__law_side, FunD.bindsN F fun _ _ _ _ _ _ us hl => match us, hl with | [_, _, _], _ => rfl, fun n ks pm hm => by
    have hm : (n, ks, pm) ∈ ([] : List (Nat × List Str × List Nat)) := hm
    exact absurd hm (by simp)⟩
theorem f__law_angle_at (X : K.In h) (G : h.Ns mainGlobals mg) (c : okX T gls K = true) (s : He.SaysD [] fnD K) : Fact P w K mg T fns 56 := by
  obtain ⟨fd, F⟩ := s.def_ 56 (d := dd 74 "_law_angle_at" "_law_angle_at") rfl
  exact ⟨_, fd, _, _, _, _, _, ["form", "way", "vector"], N__law_angle_at, c__law_angle_at, okX_fn X G c (f := 56) (by decide), F, scope_by (by decide +kernel), rfl, by decide +kernel, k__law_angle_at, FunD.bindsN F fun _ _ _ _ _ _ us hl => match us, hl with | [_, _, _], _ => rfl, fun n ks pm hm => by
    have hm : (n, ks, pm) ∈ ([] : List (Nat × List Str × List Nat)) := hm
    exact absurd hm (by simp)⟩
theorem f__law_whole_way (X : K.In h) (G : h.Ns mainGlobals mg) (c : okX T gls K = true) (s : He.SaysD [] fnD K) : Fact P w K mg T fns 57 := by
  obtain ⟨fd, F⟩ := s.def_ 57 (d := dd 75 "_law_whole_way" "_law_whole_way") rfl
  exact ⟨_, fd, _, _, _, _, _, ["well", "form"], N__law_whole_way, c__law_whole_way, okX_fn X G c (f := 57) (by decide), F, scope_by (by decide +kernel), rfl, by decide +kernel, k__law_whole_way, FunD.bindsN F fun _ _ _ _ _ _ us hl => match us, hl with | [_, _], _ => rfl, fun n ks pm hm => by
    have hm : (n, ks, pm) ∈ ([] : List (Nat × List Str × List Nat)) := hm
    exact absurd hm (by simp)⟩
theorem f__law_angle (X : K.In h) (G : h.Ns mainGlobals mg) (c : okX T gls K = true) (s : He.SaysD [] fnD K) : Fact P w K mg T fns 58 := by
  obtain ⟨fd, F⟩ := s.def_ 58 (d := dd 76 "_law_angle" "_law_angle") rfl
  exact ⟨_, fd, _, _, _, _, _, ["well", "form"], N__law_angle, c__law_angle, okX_fn X G c (f := 58) (by decide), F, scope_by (by decide +kernel), rfl, by decide +kernel, k__law_angle, FunD.bindsN F fun _ _ _ _ _ _ us hl => match us, hl with | [_, _], _ => rfl, fun n ks pm hm => by
    have hm : (n, ks, pm) ∈ ([] : List (Nat × List Str × List Nat)) := hm
    exact absurd hm (by simp)⟩
theorem f__law_sine (X : K.In h) (G : h.Ns mainGlobals mg) (c : okX T gls K = true) (s : He.SaysD [] fnD K) : Fact P w K mg T fns 59 := by
  obtain ⟨fd, F⟩ := s.def_ 59 (d := dd 77 "_law_sine" "_law_sine") rfl
  exact ⟨_, fd, _, _, _, _, _, ["angle", "other"], N__law_sine, c__law_sine, okX_fn X G c (f := 59) (by decide), F, scope_by (by decide +kernel), rfl, by decide +kernel, k__law_sine, FunD.bindsN F fun _ _ _ _ _ _ us hl => match us, hl with | [_, _], _ => rfl, fun n ks pm hm => by
    have hm : (n, ks, pm) ∈ ([] : List (Nat × List Str × List Nat)) := hm
    exact absurd hm (by simp)⟩
theorem f__law_cosine (X : K.In h) (G : h.Ns mainGlobals mg) (c : okX T gls K = true) (s : He.SaysD [] fnD K) : Fact P w K mg T fns 60 := by
  obtain ⟨fd, F⟩ := s.def_ 60 (d := dd 78 "_law_cosine" "_law_cosine") rfl
  exact ⟨_, fd, _, _, _, _, _, ["angle", "other"], N__law_cosine, c__law_cosine, okX_fn X G c (f := 60) (by decide), F, scope_by (by decide +kernel), rfl, by decide +kernel, k__law_cosine, FunD.bindsN F fun _ _ _ _ _ _ us hl => match us, hl with | [_, _], _ => rfl, fun n ks pm hm => by
    have hm : (n, ks, pm) ∈ ([] : List (Nat × List Str × List Nat)) := hm
    exact absurd hm (by simp)⟩
theorem f__law_is_same (X : K.In h) (G : h.Ns mainGlobals mg) (c : okX T gls K = true) (s : He.SaysD [] fnD K) : Fact P w K mg T fns 61 := by
  obtain ⟨fd, F⟩ := s.def_ 61 (d := dd 79 "_law_is_same" "_law_is_same") rfl
  exact ⟨_, fd, _, _, _, _, _, ["angle", "other"], N__law_is_same, c__law_is_same, okX_fn X G c (f := 61) (by decide), F, scope_by (by decide +kernel), rfl, by decide +kernel, k__law_is_same, FunD.bindsN F fun _ _ _ _ _ _ us hl => match us, hl with | [_, _], _ => rfl, fun n ks pm hm => by
    have hm : (n, ks, pm) ∈ ([] : List (Nat × List Str × List Nat)) := hm
    exact absurd hm (by simp)⟩
theorem f__law_half (X : K.In h) (G : h.Ns mainGlobals mg) (c : okX T gls K = true) (s : He.SaysD [] fnD K) : Fact P w K mg T fns 62 := by
  obtain ⟨fd, F⟩ := s.def_ 62 (d := dd 80 "_law_half" "_law_half") rfl
  exact ⟨_, fd, _, _, _, _, _, ["angle"], N__law_half, c__law_half, okX_fn X G c (f := 62) (by decide), F, scope_by (by decide +kernel), rfl, by decide +kernel, k__law_half, FunD.bindsN F fun _ _ _ _ _ _ us hl => match us, hl with | [_], _ => rfl, fun n ks pm hm => by
    have hm : (n, ks, pm) ∈ ([] : List (Nat × List Str × List Nat)) := hm
    exact absurd hm (by simp)⟩
theorem f__law_is_before (X : K.In h) (G : h.Ns mainGlobals mg) (c : okX T gls K = true) (s : He.SaysD [] fnD K) : Fact P w K mg T fns 63 := by
  obtain ⟨fd, F⟩ := s.def_ 63 (d := dd 81 "_law_is_before" "_law_is_before") rfl
  exact ⟨_, fd, _, _, _, _, _, ["angle", "other"], N__law_is_before, c__law_is_before, okX_fn X G c (f := 63) (by decide), F, scope_by (by decide +kernel), rfl, by decide +kernel, k__law_is_before, FunD.bindsN F fun _ _ _ _ _ _ us hl => match us, hl with | [_, _], _ => rfl, fun n ks pm hm => by
    have hm : (n, ks, pm) ∈ ([] : List (Nat × List Str × List Nat)) := hm
    exact absurd hm (by simp)⟩
theorem f__law_is_between (X : K.In h) (G : h.Ns mainGlobals mg) (c : okX T gls K = true) (s : He.SaysD [] fnD K) : Fact P w K mg T fns 64 := by
  obtain ⟨fd, F⟩ := s.def_ 64 (d := dd 82 "_law_is_between" "_law_is_between") rfl
  exact ⟨_, fd, _, _, _, _, _, ["angle", "low", "high"], N__law_is_between, c__law_is_between, okX_fn X G c (f := 64) (by decide), F, scope_by (by decide +kernel), rfl, by decide +kernel, k__law_is_between, FunD.bindsN F fun _ _ _ _ _ _ us hl => match us, hl with | [_, _, _], _ => rfl, fun n ks pm hm => by
    have hm : (n, ks, pm) ∈ ([] : List (Nat × List Str × List Nat)) := hm
    exact absurd hm (by simp)⟩
theorem f__law_pool (X : K.In h) (G : h.Ns mainGlobals mg) (c : okX T gls K = true) (s : He.SaysD [] fnD K) : Fact P w K mg T fns 65 := by
  obtain ⟨fd, F⟩ := s.def_ 65 (d := dd 83 "_law_pool" "_law_pool") rfl
  exact ⟨_, fd, _, _, _, _, _, ["well", "form", "many"], N__law_pool, c__law_pool, okX_fn X G c (f := 65) (by decide), F, scope_by (by decide +kernel), rfl, by decide +kernel, k__law_pool, FunD.bindsN F fun _ _ _ _ _ _ us hl => match us, hl with | [_, _, _], _ => rfl, fun n ks pm hm => by
    have hm : (n, ks, pm) ∈ ([] : List (Nat × List Str × List Nat)) := hm
    exact absurd hm (by simp)⟩
theorem f__law_turn (X : K.In h) (G : h.Ns mainGlobals mg) (c : okX T gls K = true) (s : He.SaysD [] fnD K) : Fact P w K mg T fns 66 := by
  obtain ⟨fd, F⟩ := s.def_ 66 (d := dd 84 "_law_turn" "_law_turn") rfl
  exact ⟨_, fd, _, _, _, _, _, ["well"], N__law_turn, c__law_turn, okX_fn X G c (f := 66) (by decide), F, scope_by (by decide +kernel), rfl, by decide +kernel, k__law_turn, FunD.bindsN F fun _ _ _ _ _ _ us hl => match us, hl with | [_], _ => rfl, fun n ks pm hm => by
    have hm : (n, ks, pm) ∈ ([] : List (Nat × List Str × List Nat)) := hm
    exact absurd hm (by simp)⟩
theorem f__law_turned (X : K.In h) (G : h.Ns mainGlobals mg) (c : okX T gls K = true) (s : He.SaysD [] fnD K) : Fact P w K mg T fns 67 := by
  obtain ⟨fd, F⟩ := s.def_ 67 (d := dd 85 "_law_turned" "_law_turned") rfl
  exact ⟨_, fd, _, _, _, _, _, ["angle", "turn"], N__law_turned, c__law_turned, okX_fn X G c (f := 67) (by decide), F, scope_by (by decide +kernel), rfl, by decide +kernel, k__law_turned, FunD.bindsN F fun _ _ _ _ _ _ us hl => match us, hl with | [_, _], _ => rfl, fun n ks pm hm => by
    have hm : (n, ks, pm) ∈ ([] : List (Nat × List Str × List Nat)) := hm
    exact absurd hm (by simp)⟩
theorem f__law_size_sign (X : K.In h) (G : h.Ns mainGlobals mg) (c : okX T gls K = true) (s : He.SaysD [] fnD K) : Fact P w K mg T fns 68 := by
  obtain ⟨fd, F⟩ := s.def_ 68 (d := dd 86 "_law_size_sign" "_law_size_sign") rfl
  exact ⟨_, fd, _, _, _, _, _, ["form", "turn", "other"], N__law_size_sign, c__law_size_sign, okX_fn X G c (f := 68) (by decide), F, scope_by (by decide +kernel), rfl, by decide +kernel, k__law_size_sign, FunD.bindsN F fun _ _ _ _ _ _ us hl => match us, hl with | [_, _, _], _ => rfl, fun n ks pm hm => by
    have hm : (n, ks, pm) ∈ ([] : List (Nat × List Str × List Nat)) := hm
    exact absurd hm (by simp)⟩
theorem f__law_gap_sign (X : K.In h) (G : h.Ns mainGlobals mg) (c : okX T gls K = true) (s : He.SaysD [] fnD K) : Fact P w K mg T fns 69 := by
  obtain ⟨fd, F⟩ := s.def_ 69 (d := dd 87 "_law_gap_sign" "_law_gap_sign") rfl
  exact ⟨_, fd, _, _, _, _, _, ["angle", "other", "turn"], N__law_gap_sign, c__law_gap_sign, okX_fn X G c (f := 69) (by decide), F, scope_by (by decide +kernel), rfl, by decide +kernel, k__law_gap_sign, FunD.bindsN F fun _ _ _ _ _ _ us hl => match us, hl with | [_, _, _], _ => rfl, fun n ks pm hm => by
    have hm : (n, ks, pm) ∈ ([] : List (Nat × List Str × List Nat)) := hm
    exact absurd hm (by simp)⟩
theorem f__law_gaps_right (X : K.In h) (G : h.Ns mainGlobals mg) (c : okX T gls K = true) (s : He.SaysD [] fnD K) : Fact P w K mg T fns 70 := by
  obtain ⟨fd, F⟩ := s.def_ 70 (d := dd 88 "_law_gaps_right" "_law_gaps_right") rfl
  exact ⟨_, fd, _, _, _, _, _, ["well", "form", "some"], N__law_gaps_right, c__law_gaps_right, okX_fn X G c (f := 70) (by decide), F, scope_by (by decide +kernel), rfl, by decide +kernel, k__law_gaps_right, FunD.bindsN F fun _ _ _ _ _ _ us hl => match us, hl with | [_, _, _], _ => rfl, fun n ks pm hm => by
    have hm : (n, ks, pm) ∈ ([] : List (Nat × List Str × List Nat)) := hm
    exact absurd hm (by simp)⟩
theorem f__law_is_way (X : K.In h) (G : h.Ns mainGlobals mg) (c : okX T gls K = true) (s : He.SaysD [] fnD K) : Fact P w K mg T fns 71 := by
  obtain ⟨fd, F⟩ := s.def_ 71 (d := dd 89 "_law_is_way" "_law_is_way") rfl
  exact ⟨_, fd, _, _, _, _, _, ["told"], N__law_is_way, c__law_is_way, okX_fn X G c (f := 71) (by decide), F, scope_by (by decide +kernel), rfl, by decide +kernel, k__law_is_way, FunD.bindsN F fun _ _ _ _ _ _ us hl => match us, hl with | [_], _ => rfl, fun n ks pm hm => by
    have hm : (n, ks, pm) ∈ ([] : List (Nat × List Str × List Nat)) := hm
    exact absurd hm (by simp)⟩
theorem f__law_right (X : K.In h) (G : h.Ns mainGlobals mg) (c : okX T gls K = true) (s : He.SaysD [] fnD K) : Fact P w K mg T fns 72 := by
  obtain ⟨fd, F⟩ := s.def_ 72 (d := dd 90 "_law_right" "_law_right") rfl
  exact ⟨_, fd, _, _, _, _, _, ["well"], N__law_right, c__law_right, okX_fn X G c (f := 72) (by decide), F, scope_by (by decide +kernel), rfl, by decide +kernel, k__law_right, FunD.bindsN F fun _ _ _ _ _ _ us hl => match us, hl with | [_], _ => rfl, fun n ks pm hm => by
    have hm : (n, ks, pm) ∈ ([] : List (Nat × List Str × List Nat)) := hm
    exact absurd hm (by simp)⟩
theorem f_law (X : K.In h) (G : h.Ns mainGlobals mg) (c : okX T gls K = true) (s : He.SaysD [] fnD K) : Fact P w K mg T fns 73 := by
  obtain ⟨fd, F⟩ := s.def_ 73 (d := dd 91 "law" "law") rfl
  exact ⟨_, fd, _, _, _, _, _, ["script"], N_law, c_law, okX_fn X G c (f := 73) (by decide), F, scope_by (by decide +kernel), rfl, by decide +kernel, k_law, FunD.bindsN F fun _ _ _ _ _ _ us hl => match us, hl with | [_], _ => rfl, fun n ks pm hm => by
    have hm : (n, ks, pm) ∈ ([] : List (Nat × List Str × List Nat)) := hm
    exact absurd hm (by simp)⟩
theorem in_InvalidForm (c : okX T gls K = true) (s : He.SaysD [] fnD K) : IniC P w K mg (clA K T 2) := by
  obtain ⟨fd, F⟩ := s.def_ 74 (d := di 3 "InvalidForm" "InvalidForm.__init__") rfl
  exact ini_of c (k := 2) (by decide) (by decide) (by decide) F rfl (FunD.bindsN F fun _ _ _ _ _ _ us hl => match us, hl with | [_, _], _ => rfl) (scope_by (N := ["self", "given"]) (by decide +kernel)) (by decide +kernel)
theorem in_InvalidAngle (c : okX T gls K = true) (s : He.SaysD [] fnD K) : IniC P w K mg (clA K T 3) := by
  obtain ⟨fd, F⟩ := s.def_ 75 (d := di 4 "InvalidAngle" "InvalidAngle.__init__") rfl
  exact ini_of c (k := 3) (by decide) (by decide) (by decide) F rfl (FunD.bindsN F fun _ _ _ _ _ _ us hl => match us, hl with | [_, _], _ => rfl) (scope_by (N := ["self", "given"]) (by decide +kernel)) (by decide +kernel)
theorem in_InvalidWay (c : okX T gls K = true) (s : He.SaysD [] fnD K) : IniC P w K mg (clA K T 4) := by
  obtain ⟨fd, F⟩ := s.def_ 76 (d := di 5 "InvalidWay" "InvalidWay.__init__") rfl
  exact ini_of c (k := 4) (by decide) (by decide) (by decide) F rfl (FunD.bindsN F fun _ _ _ _ _ _ us hl => match us, hl with | [_, _], _ => rfl) (scope_by (N := ["self", "given"]) (by decide +kernel)) (by decide +kernel)
theorem in_InvalidTurn (c : okX T gls K = true) (s : He.SaysD [] fnD K) : IniC P w K mg (clA K T 5) := by
  obtain ⟨fd, F⟩ := s.def_ 77 (d := di 6 "InvalidTurn" "InvalidTurn.__init__") rfl
  exact ini_of c (k := 5) (by decide) (by decide) (by decide) F rfl (FunD.bindsN F fun _ _ _ _ _ _ us hl => match us, hl with | [_, _], _ => rfl) (scope_by (N := ["self", "given"]) (by decide +kernel)) (by decide +kernel)
theorem in_Unlike (c : okX T gls K = true) (s : He.SaysD [] fnD K) : IniC P w K mg (clA K T 6) := by
  obtain ⟨fd, F⟩ := s.def_ 78 (d := di 7 "Unlike" "Unlike.__init__") rfl
  exact ini_of c (k := 6) (by decide) (by decide) (by decide) F rfl (FunD.bindsN F fun _ _ _ _ _ _ us hl => match us, hl with | [_, _], _ => rfl) (scope_by (N := ["self", "given"]) (by decide +kernel)) (by decide +kernel)
theorem inis (c : okX T gls K = true) (s : He.SaysD [] fnD K) : ∀ k, 2 ≤ k → k < T.nc → T.hasI k = true → IniC P w K mg (clA K T k) := fun k lo hi hI => match k, lo, hi, hI with
  | 0, lo, _, _ => absurd lo (by decide)
  | 1, lo, _, _ => absurd lo (by decide)
  | 2, _, _, _ => in_InvalidForm c s
  | 3, _, _, _ => in_InvalidAngle c s
  | 4, _, _, _ => in_InvalidWay c s
  | 5, _, _, _ => in_InvalidTurn c s
  | 6, _, _, _ => in_Unlike c s
  | n + 7, _, hi, _ => absurd (show n + 7 < 7 from hi) (by omega)
theorem facts (X : K.In h) (G : h.Ns mainGlobals mg) (c : okX T gls K = true) (s : He.SaysD [] fnD K) : ∀ f, f < T.nf → Fact P w K mg T fns f := fun f hf => match f, hf with
  | 0, _ => f_is_whole X G c s
  | 1, _ => f_is_between_values X G c s
  | 2, _ => f_are_wholes X G c s
  | 3, _ => f_common X G c s
  | 4, _ => f_reduced X G c s
  | 5, _ => f_sign_of X G c s
  | 6, _ => f_root_sign X G c s
  | 7, _ => f_double_sign X G c s
  | 8, _ => f_product X G c s
  | 9, _ => f_cross X G c s
  | 10, _ => f_norm X G c s
  | 11, _ => f_is_angle X G c s
  | 12, _ => f_is_turn X G c s
  | 13, _ => f_is_way X G c s
  | 14, _ => f_check_form X G c s
  | 15, _ => f_check_angle X G c s
  | 16, _ => f_check_turn X G c s
  | 17, _ => f_check_way X G c s
  | 18, _ => f_check_form_of X G c s
  | 19, _ => f_square_at X G c s
  | 20, _ => f_place_of X G c s
  | 21, _ => f_sign_at X G c s
  | 22, _ => f_sine_sign X G c s
  | 23, _ => f_cosine_sign X G c s
  | 24, _ => f_are_one X G c s
  | 25, _ => f_quarter_of X G c s
  | 26, _ => f_comes_before X G c s
  | 27, _ => f_lies_between X G c s
  | 28, _ => f_near_way X G c s
  | 29, _ => f_way_within X G c s
  | 30, _ => f_turned_by X G c s
  | 31, _ => f_factor_of X G c s
  | 32, _ => f_way_angle X G c s
  | 33, _ => f_is_same_place X G c s
  | 34, _ => f_is_between_places X G c s
  | 35, _ => f_way_between X G c s
  | 36, _ => f_turn_sign X G c s
  | 37, _ => f_turned_on X G c s
  | 38, _ => f_gap_sign X G c s
  | 39, _ => f_compare_turns X G c s
  | 40, _ => f_compare_gap X G c s
  | 41, _ => f__law_well X G c s
  | 42, _ => f__law_draw X G c s
  | 43, _ => f__law_pick X G c s
  | 44, _ => f__law_rounds X G c s
  | 45, _ => f__law_common X G c s
  | 46, _ => f__law_number X G c s
  | 47, _ => f__law_sign X G c s
  | 48, _ => f__law_sign_of_two X G c s
  | 49, _ => f__law_sign_of_four X G c s
  | 50, _ => f__law_norm X G c s
  | 51, _ => f__law_reduced X G c s
  | 52, _ => f__law_root X G c s
  | 53, _ => f__law_vector X G c s
  | 54, _ => f__law_arrow X G c s
  | 55, _ => f__law_side X G c s
  | 56, _ => f__law_angle_at X G c s
  | 57, _ => f__law_whole_way X G c s
  | 58, _ => f__law_angle X G c s
  | 59, _ => f__law_sine X G c s
  | 60, _ => f__law_cosine X G c s
  | 61, _ => f__law_is_same X G c s
  | 62, _ => f__law_half X G c s
  | 63, _ => f__law_is_before X G c s
  | 64, _ => f__law_is_between X G c s
  | 65, _ => f__law_pool X G c s
  | 66, _ => f__law_turn X G c s
  | 67, _ => f__law_turned X G c s
  | 68, _ => f__law_size_sign X G c s
  | 69, _ => f__law_gap_sign X G c s
  | 70, _ => f__law_gaps_right X G c s
  | 71, _ => f__law_is_way X G c s
  | 72, _ => f__law_right X G c s
  | 73, _ => f_law X G c s
  | n + 74, hf => absurd (show n + 74 < 74 from hf) (by omega)
end
abbrev gl (i : Nat) : Option PyData := gls[i]?
noncomputable abbrev sm (k : Nat) : Sm := smk gl fns T.hasI k
@[simp] theorem gv_0 (k : Nat) : (sm k).glob 0 = some (.int 3) := by rw [smk_glob]; rfl
@[simp] theorem gv_1 (k : Nat) : (sm k).glob 1 = some (.int 8) := by rw [smk_glob]; rfl
@[simp] theorem gv_2 (k : Nat) : (sm k).glob 2 = some (.tuple [(.int 1), (.int 0)]) := by rw [smk_glob]; rfl
theorem r_is_whole (k : Nat) (a0 : W) : (sm (k + 1)).call 0 [a0] = finM (exSs (sm k) c_is_whole [some a0]) := runF_M (sm k) 1 1 c_is_whole [a0] rfl
theorem r_is_between_values (k : Nat) (a0 a1 a2 : W) : (sm (k + 1)).call 1 [a0, a1, a2] = finM (exSs (sm k) c_is_between_values [some a0, some a1, some a2]) := runF_M (sm k) 3 3 c_is_between_values [a0, a1, a2] rfl
theorem r_are_wholes (k : Nat) (a0 a1 : W) : (sm (k + 1)).call 2 [a0, a1] = finM (exSs (sm k) c_are_wholes [some a0, some a1, none]) := runF_M (sm k) 2 3 c_are_wholes [a0, a1] rfl
theorem r_common (k : Nat) (a0 : W) : (sm (k + 1)).call 3 [a0] = finM (exSs (sm k) c_common [some a0, none, none]) := runF_M (sm k) 1 3 c_common [a0] rfl
theorem r_reduced (k : Nat) (a0 : W) : (sm (k + 1)).call 4 [a0] = finM (exSs (sm k) c_reduced [some a0, none, none]) := runF_M (sm k) 1 3 c_reduced [a0] rfl
theorem r_sign_of (k : Nat) (a0 : W) : (sm (k + 1)).call 5 [a0] = finM (exSs (sm k) c_sign_of [some a0]) := runF_M (sm k) 1 1 c_sign_of [a0] rfl
theorem r_root_sign (k : Nat) (a0 a1 a2 : W) : (sm (k + 1)).call 6 [a0, a1, a2] = finM (exSs (sm k) c_root_sign [some a0, some a1, some a2, none, none]) := runF_M (sm k) 3 5 c_root_sign [a0, a1, a2] rfl
theorem r_double_sign (k : Nat) (a0 a1 a2 a3 : W) : (sm (k + 1)).call 7 [a0, a1, a2, a3] = finM (exSs (sm k) c_double_sign [some a0, some a1, some a2, some a3, none, none, none, none, none]) := runF_M (sm k) 4 9 c_double_sign [a0, a1, a2, a3] rfl
theorem r_product (k : Nat) (a0 a1 a2 : W) : (sm (k + 1)).call 8 [a0, a1, a2] = finM (exSs (sm k) c_product [some a0, some a1, some a2]) := runF_M (sm k) 3 3 c_product [a0, a1, a2] rfl
theorem r_cross (k : Nat) (a0 a1 : W) : (sm (k + 1)).call 9 [a0, a1] = finM (exSs (sm k) c_cross [some a0, some a1]) := runF_M (sm k) 2 2 c_cross [a0, a1] rfl
theorem r_norm (k : Nat) (a0 a1 : W) : (sm (k + 1)).call 10 [a0, a1] = finM (exSs (sm k) c_norm [some a0, some a1]) := runF_M (sm k) 2 2 c_norm [a0, a1] rfl
theorem r_is_angle (k : Nat) (a0 : W) : (sm (k + 1)).call 11 [a0] = finM (exSs (sm k) c_is_angle [some a0]) := runF_M (sm k) 1 1 c_is_angle [a0] rfl
theorem r_is_turn (k : Nat) (a0 : W) : (sm (k + 1)).call 12 [a0] = finM (exSs (sm k) c_is_turn [some a0]) := runF_M (sm k) 1 1 c_is_turn [a0] rfl
theorem r_is_way (k : Nat) (a0 : W) : (sm (k + 1)).call 13 [a0] = finM (exSs (sm k) c_is_way [some a0]) := runF_M (sm k) 1 1 c_is_way [a0] rfl
theorem r_check_form (k : Nat) (a0 : W) : (sm (k + 1)).call 14 [a0] = finM (exSs (sm k) c_check_form [some a0]) := runF_M (sm k) 1 1 c_check_form [a0] rfl
theorem r_check_angle (k : Nat) (a0 : W) : (sm (k + 1)).call 15 [a0] = finM (exSs (sm k) c_check_angle [some a0]) := runF_M (sm k) 1 1 c_check_angle [a0] rfl
theorem r_check_turn (k : Nat) (a0 : W) : (sm (k + 1)).call 16 [a0] = finM (exSs (sm k) c_check_turn [some a0]) := runF_M (sm k) 1 1 c_check_turn [a0] rfl
theorem r_check_way (k : Nat) (a0 : W) : (sm (k + 1)).call 17 [a0] = finM (exSs (sm k) c_check_way [some a0]) := runF_M (sm k) 1 1 c_check_way [a0] rfl
theorem r_check_form_of (k : Nat) (a0 a1 : W) : (sm (k + 1)).call 18 [a0, a1] = finM (exSs (sm k) c_check_form_of [some a0, some a1]) := runF_M (sm k) 2 2 c_check_form_of [a0, a1] rfl
theorem r_square_at (k : Nat) (a0 : W) : (sm (k + 1)).call 19 [a0] = finM (exSs (sm k) c_square_at [some a0]) := runF_M (sm k) 1 1 c_square_at [a0] rfl
theorem r_place_of (k : Nat) (a0 a1 : W) : (sm (k + 1)).call 20 [a0, a1] = finM (exSs (sm k) c_place_of [some a0, some a1]) := runF_M (sm k) 2 2 c_place_of [a0, a1] rfl
theorem r_sign_at (k : Nat) (a0 a1 a2 : W) : (sm (k + 1)).call 21 [a0, a1, a2] = finM (exSs (sm k) c_sign_at [some a0, some a1, some a2, none, none, none, none]) := runF_M (sm k) 3 7 c_sign_at [a0, a1, a2] rfl
theorem r_sine_sign (k : Nat) (a0 a1 : W) : (sm (k + 1)).call 22 [a0, a1] = finM (exSs (sm k) c_sine_sign [some a0, some a1, none, none, none, none, none, none]) := runF_M (sm k) 2 8 c_sine_sign [a0, a1] rfl
theorem r_cosine_sign (k : Nat) (a0 a1 : W) : (sm (k + 1)).call 23 [a0, a1] = finM (exSs (sm k) c_cosine_sign [some a0, some a1, none, none, none, none, none, none]) := runF_M (sm k) 2 8 c_cosine_sign [a0, a1] rfl
theorem r_are_one (k : Nat) (a0 a1 : W) : (sm (k + 1)).call 24 [a0, a1] = finM (exSs (sm k) c_are_one [some a0, some a1]) := runF_M (sm k) 2 2 c_are_one [a0, a1] rfl
theorem r_quarter_of (k : Nat) (a0 : W) : (sm (k + 1)).call 25 [a0] = finM (exSs (sm k) c_quarter_of [some a0, none]) := runF_M (sm k) 1 2 c_quarter_of [a0] rfl
theorem r_comes_before (k : Nat) (a0 a1 : W) : (sm (k + 1)).call 26 [a0, a1] = finM (exSs (sm k) c_comes_before [some a0, some a1, none, none]) := runF_M (sm k) 2 4 c_comes_before [a0, a1] rfl
theorem r_lies_between (k : Nat) (a0 a1 a2 : W) : (sm (k + 1)).call 27 [a0, a1, a2] = finM (exSs (sm k) c_lies_between [some a0, some a1, some a2, none, none]) := runF_M (sm k) 3 5 c_lies_between [a0, a1, a2] rfl
theorem r_near_way (k : Nat) (a0 a1 : W) : (sm (k + 1)).call 28 [a0, a1] = finM (exSs (sm k) c_near_way [some a0, some a1, none, none, none, none, none, none, none]) := runF_M (sm k) 2 9 c_near_way [a0, a1] rfl
theorem r_way_within (k : Nat) (a0 a1 : W) : (sm (k + 1)).call 29 [a0, a1] = finM (exSs (sm k) c_way_within [some a0, some a1, none, none, none, none, none]) := runF_M (sm k) 2 7 c_way_within [a0, a1] rfl
theorem r_turned_by (k : Nat) (a0 a1 a2 : W) : (sm (k + 1)).call 30 [a0, a1, a2] = finM (exSs (sm k) c_turned_by [some a0, some a1, some a2, none, none]) := runF_M (sm k) 3 5 c_turned_by [a0, a1, a2] rfl
theorem r_factor_of (k : Nat) (a0 a1 : W) : (sm (k + 1)).call 31 [a0, a1] = finM (exSs (sm k) c_factor_of [some a0, some a1]) := runF_M (sm k) 2 2 c_factor_of [a0, a1] rfl
theorem r_way_angle (k : Nat) (a0 a1 : W) : (sm (k + 1)).call 32 [a0, a1] = finM (exSs (sm k) c_way_angle [some a0, some a1]) := runF_M (sm k) 2 2 c_way_angle [a0, a1] rfl
theorem r_is_same_place (k : Nat) (a0 a1 : W) : (sm (k + 1)).call 33 [a0, a1] = finM (exSs (sm k) c_is_same_place [some a0, some a1]) := runF_M (sm k) 2 2 c_is_same_place [a0, a1] rfl
theorem r_is_between_places (k : Nat) (a0 a1 a2 : W) : (sm (k + 1)).call 34 [a0, a1, a2] = finM (exSs (sm k) c_is_between_places [some a0, some a1, some a2]) := runF_M (sm k) 3 3 c_is_between_places [a0, a1, a2] rfl
theorem r_way_between (k : Nat) (a0 a1 : W) : (sm (k + 1)).call 35 [a0, a1] = finM (exSs (sm k) c_way_between [some a0, some a1]) := runF_M (sm k) 2 2 c_way_between [a0, a1] rfl
theorem r_turn_sign (k : Nat) (a0 a1 : W) : (sm (k + 1)).call 36 [a0, a1] = finM (exSs (sm k) c_turn_sign [some a0, some a1, none, none]) := runF_M (sm k) 2 4 c_turn_sign [a0, a1] rfl
theorem r_turned_on (k : Nat) (a0 a1 : W) : (sm (k + 1)).call 37 [a0, a1] = finM (exSs (sm k) c_turned_on [some a0, some a1, none]) := runF_M (sm k) 2 3 c_turned_on [a0, a1] rfl
theorem r_gap_sign (k : Nat) (a0 a1 a2 : W) : (sm (k + 1)).call 38 [a0, a1, a2] = finM (exSs (sm k) c_gap_sign [some a0, some a1, some a2, none]) := runF_M (sm k) 3 4 c_gap_sign [a0, a1, a2] rfl
theorem r_compare_turns (k : Nat) (a0 a1 : W) : (sm (k + 1)).call 39 [a0, a1] = finM (exSs (sm k) c_compare_turns [some a0, some a1]) := runF_M (sm k) 2 2 c_compare_turns [a0, a1] rfl
theorem r_compare_gap (k : Nat) (a0 a1 a2 : W) : (sm (k + 1)).call 40 [a0, a1, a2] = finM (exSs (sm k) c_compare_gap [some a0, some a1, some a2]) := runF_M (sm k) 3 3 c_compare_gap [a0, a1, a2] rfl
theorem r__law_well (k : Nat) (a0 a1 : W) : (sm (k + 1)).call 41 [a0, a1] = finM (exSs (sm k) c__law_well [some a0, some a1, none, none, none, none]) := runF_M (sm k) 2 6 c__law_well [a0, a1] rfl
theorem r__law_draw (k : Nat) (a0 a1 : W) : (sm (k + 1)).call 42 [a0, a1] = finM (exSs (sm k) c__law_draw [some a0, some a1, none, none]) := runF_M (sm k) 2 4 c__law_draw [a0, a1] rfl
theorem r__law_pick (k : Nat) (a0 a1 : W) : (sm (k + 1)).call 43 [a0, a1] = finM (exSs (sm k) c__law_pick [some a0, some a1]) := runF_M (sm k) 2 2 c__law_pick [a0, a1] rfl
theorem r__law_rounds (k : Nat) (a0 : W) : (sm (k + 1)).call 44 [a0] = finM (exSs (sm k) c__law_rounds [some a0]) := runF_M (sm k) 1 1 c__law_rounds [a0] rfl
theorem r__law_common (k : Nat) (a0 a1 : W) : (sm (k + 1)).call 45 [a0, a1] = finM (exSs (sm k) c__law_common [some a0, some a1, none, none]) := runF_M (sm k) 2 4 c__law_common [a0, a1] rfl
theorem r__law_number (k : Nat) (a0 : W) : (sm (k + 1)).call 46 [a0] = finM (exSs (sm k) c__law_number [some a0, none]) := runF_M (sm k) 1 2 c__law_number [a0] rfl
theorem r__law_sign (k : Nat) (a0 : W) : (sm (k + 1)).call 47 [a0] = finM (exSs (sm k) c__law_sign [some a0]) := runF_M (sm k) 1 1 c__law_sign [a0] rfl
theorem r__law_sign_of_two (k : Nat) (a0 a1 a2 : W) : (sm (k + 1)).call 48 [a0, a1, a2] = finM (exSs (sm k) c__law_sign_of_two [some a0, some a1, some a2, none, none]) := runF_M (sm k) 3 5 c__law_sign_of_two [a0, a1, a2] rfl
theorem r__law_sign_of_four (k : Nat) (a0 a1 a2 a3 a4 a5 : W) : (sm (k + 1)).call 49 [a0, a1, a2, a3, a4, a5] = finM (exSs (sm k) c__law_sign_of_four [some a0, some a1, some a2, some a3, some a4, some a5, none, none]) := runF_M (sm k) 6 8 c__law_sign_of_four [a0, a1, a2, a3, a4, a5] rfl
theorem r__law_norm (k : Nat) (a0 a1 : W) : (sm (k + 1)).call 50 [a0, a1] = finM (exSs (sm k) c__law_norm [some a0, some a1]) := runF_M (sm k) 2 2 c__law_norm [a0, a1] rfl
theorem r__law_reduced (k : Nat) (a0 : W) : (sm (k + 1)).call 51 [a0] = finM (exSs (sm k) c__law_reduced [some a0, none, none]) := runF_M (sm k) 1 3 c__law_reduced [a0] rfl
theorem r__law_root (k : Nat) (a0 : W) : (sm (k + 1)).call 52 [a0] = finM (exSs (sm k) c__law_root [some a0, none, none, none]) := runF_M (sm k) 1 4 c__law_root [a0] rfl
theorem r__law_vector (k : Nat) (a0 : W) : (sm (k + 1)).call 53 [a0] = finM (exSs (sm k) c__law_vector [some a0, none, none]) := runF_M (sm k) 1 3 c__law_vector [a0] rfl
theorem r__law_arrow (k : Nat) (a0 : W) : (sm (k + 1)).call 54 [a0] = finM (exSs (sm k) c__law_arrow [some a0, none, none, none, none, none]) := runF_M (sm k) 1 6 c__law_arrow [a0] rfl
theorem r__law_side (k : Nat) (a0 a1 a2 : W) : (sm (k + 1)).call 55 [a0, a1, a2] = finM (exSs (sm k) c__law_side [some a0, some a1, some a2, none, none, none, none, none]) := runF_M (sm k) 3 8 c__law_side [a0, a1, a2] rfl
theorem r__law_angle_at (k : Nat) (a0 a1 a2 : W) : (sm (k + 1)).call 56 [a0, a1, a2] = finM (exSs (sm k) c__law_angle_at [some a0, some a1, some a2, none, none, none, none]) := runF_M (sm k) 3 7 c__law_angle_at [a0, a1, a2] rfl
theorem r__law_whole_way (k : Nat) (a0 a1 : W) : (sm (k + 1)).call 57 [a0, a1] = finM (exSs (sm k) c__law_whole_way [some a0, some a1, none, none, none, none]) := runF_M (sm k) 2 6 c__law_whole_way [a0, a1] rfl
theorem r__law_angle (k : Nat) (a0 a1 : W) : (sm (k + 1)).call 58 [a0, a1] = finM (exSs (sm k) c__law_angle [some a0, some a1, none, none, none, none, none]) := runF_M (sm k) 2 7 c__law_angle [a0, a1] rfl
theorem r__law_sine (k : Nat) (a0 a1 : W) : (sm (k + 1)).call 59 [a0, a1] = finM (exSs (sm k) c__law_sine [some a0, some a1, none, none, none, none, none, none, none, none, none, none, none]) := runF_M (sm k) 2 13 c__law_sine [a0, a1] rfl
theorem r__law_cosine (k : Nat) (a0 a1 : W) : (sm (k + 1)).call 60 [a0, a1] = finM (exSs (sm k) c__law_cosine [some a0, some a1, none, none, none, none, none, none, none, none, none, none, none, none, none, none]) := runF_M (sm k) 2 16 c__law_cosine [a0, a1] rfl
theorem r__law_is_same (k : Nat) (a0 a1 : W) : (sm (k + 1)).call 61 [a0, a1] = finM (exSs (sm k) c__law_is_same [some a0, some a1]) := runF_M (sm k) 2 2 c__law_is_same [a0, a1] rfl
theorem r__law_half (k : Nat) (a0 : W) : (sm (k + 1)).call 62 [a0] = finM (exSs (sm k) c__law_half [some a0, none]) := runF_M (sm k) 1 2 c__law_half [a0] rfl
theorem r__law_is_before (k : Nat) (a0 a1 : W) : (sm (k + 1)).call 63 [a0, a1] = finM (exSs (sm k) c__law_is_before [some a0, some a1, none, none]) := runF_M (sm k) 2 4 c__law_is_before [a0, a1] rfl
theorem r__law_is_between (k : Nat) (a0 a1 a2 : W) : (sm (k + 1)).call 64 [a0, a1, a2] = finM (exSs (sm k) c__law_is_between [some a0, some a1, some a2]) := runF_M (sm k) 3 3 c__law_is_between [a0, a1, a2] rfl
theorem r__law_pool (k : Nat) (a0 a1 a2 : W) : (sm (k + 1)).call 65 [a0, a1, a2] = finM (exSs (sm k) c__law_pool [some a0, some a1, some a2, none, none, none, none, none, none, none, none, none, none, none]) := runF_M (sm k) 3 14 c__law_pool [a0, a1, a2] rfl
theorem r__law_turn (k : Nat) (a0 : W) : (sm (k + 1)).call 66 [a0] = finM (exSs (sm k) c__law_turn [some a0, none, none]) := runF_M (sm k) 1 3 c__law_turn [a0] rfl
theorem r__law_turned (k : Nat) (a0 a1 : W) : (sm (k + 1)).call 67 [a0, a1] = finM (exSs (sm k) c__law_turned [some a0, some a1, none, none, none, none, none, none, none, none, none]) := runF_M (sm k) 2 11 c__law_turned [a0, a1] rfl
theorem r__law_size_sign (k : Nat) (a0 a1 a2 : W) : (sm (k + 1)).call 68 [a0, a1, a2] = finM (exSs (sm k) c__law_size_sign [some a0, some a1, some a2, none, none]) := runF_M (sm k) 3 5 c__law_size_sign [a0, a1, a2] rfl
theorem r__law_gap_sign (k : Nat) (a0 a1 a2 : W) : (sm (k + 1)).call 69 [a0, a1, a2] = finM (exSs (sm k) c__law_gap_sign [some a0, some a1, some a2, none]) := runF_M (sm k) 3 4 c__law_gap_sign [a0, a1, a2] rfl
theorem r__law_gaps_right (k : Nat) (a0 a1 a2 : W) : (sm (k + 1)).call 70 [a0, a1, a2] = finM (exSs (sm k) c__law_gaps_right [some a0, some a1, some a2, none, none, none, none, none, none, none, none, none]) := runF_M (sm k) 3 12 c__law_gaps_right [a0, a1, a2] rfl
theorem r__law_is_way (k : Nat) (a0 : W) : (sm (k + 1)).call 71 [a0] = finM (exSs (sm k) c__law_is_way [some a0, none]) := runF_M (sm k) 1 2 c__law_is_way [a0] rfl
theorem r__law_right (k : Nat) (a0 : W) : (sm (k + 1)).call 72 [a0] = finM (exSs (sm k) c__law_right [some a0, none, none, none, none, none, none, none, none, none, none, none, none, none, none, none]) := runF_M (sm k) 1 16 c__law_right [a0] rfl
theorem r_law (k : Nat) (a0 : W) : (sm (k + 1)).call 73 [a0] = finM (exSs (sm k) c_law [some a0, none]) := runF_M (sm k) 1 2 c_law [a0] rfl
end G07

namespace G07
open PySem PySem.Spec PyProof.Rows L2 DL
section
def isW : PyData → Bool
  | .int _ => true
  | _ => false
@[simp] theorem isW_int (i : Int) : isW (.int i) = true := rfl
theorem e_is_whole (k : Nat) (x : PyData) : (sm (k + 1)).call 0 [.d x] = re (.d (.bool (isW x))) := by
  rw [r_is_whole, c_is_whole]
  cases x <;> simp [tyOf, isW] 
theorem e_is_between (k : Nat) (i a b : Int) : (sm (k + 2)).call 1 [.d (.int i), .d (.int a), .d (.int b)] = re (.d (.bool (decide (a ≤ i) && decide (i ≤ b)))) := by
  rw [r_is_between_values, c_is_between_values]
  simp [e_is_whole, isW]
theorem e_are_wholes (k : Nat) (xs : List PyData) (n : Int) (hl : xs.length ≤ 1000) : (sm (k + 2)).call 2 [.d (.tuple xs), .d (.int n)] = re (.d (.bool (decide ((xs.length : Int) = n) && xs.all isW))) := by
  rw [r_are_wholes, c_are_wholes]
  have h := cm_tup (Γ := sm (k + 1)) (p := .nm 2) (e := .call 0 [.var 2]) (ρ0 := wipeE [some (W.d (.tuple xs)), some (W.d (.int n)), none] [2]) (fun x => .bool (isW x)) (xs := xs) (by show xs.length ≤ 100000; omega) fun x _ => ⟨_, by rw [asg_nm], by simp [wipeE, e_is_whole]⟩
  simp [tyOf, ev_cmpr, h, b1, blsOf_map]
theorem e_common (k : Nat) (xs : List Int) (hl : xs.length ≤ 1000) : (sm (k + 1)).call 3 [.d (.tuple (xs.map PyData.int))] = re (.d (.int (gcdL xs))) := by
  rw [r_common, c_common]
  obtain ⟨ρ', ⟨l, g, zs, e1, e2, rfl⟩, hr⟩ := frW_rel (Γ := sm k) (k := .seq) (p := .nm 2) (b := [.set 1 (.blt .gcd [.var 1, .var 2])]) (ws := [.d (.tuple (xs.map PyData.int))]) (xs := xs.map PyData.int) (ρ := [some (.d (.tuple (xs.map PyData.int))), some (.d (.int 0)), none])
    (fun ys ρ => ∃ (l : Option W) (g : Nat) (zs : List Int), ys = zs.map PyData.int ∧ zs.foldl (fun g x => Nat.gcd g x.natAbs) g = gcdL xs ∧ ρ = [some (.d (.tuple (xs.map PyData.int))), some (.d (.int g)), l]) (fun _ => rfl) (by simp; show xs.length ≤ 100000; omega) ⟨none, 0, xs, rfl, rfl, rfl⟩ (by
      rintro x ys ρ ⟨l, g, zs, e1, e2, rfl⟩
      cases zs with
      | nil => cases e1
      | cons z zs =>
        cases e1
        refine ⟨_, _, by rw [asg_nm], by simp; rfl, ⟨_, Nat.gcd g z.natAbs, zs, rfl, e2, rfl⟩⟩)
  have e1 : zs = [] := by simpa using e1.symm
  subst e1
  have e2 : g = gcdL xs := e2
  subst e2
  simp [ex_fors, hr]
theorem e_sign_of (k : Nat) (i : Int) : (sm (k + 1)).call 5 [.d (.int i)] = re (.d (.int i.sign)) := by
  rw [r_sign_of, c_sign_of]
  simp
  congr 3
  split
  · rw [Int.sign_eq_one_of_pos (by omega)]
  · split
    · rw [Int.sign_eq_neg_one_of_neg (by omega)]
    · rw [show i = 0 by omega]; rfl
def tq (q d : Int) : Int := if 0 < d then q.sign else 0
def rs (p q d : Int) : Int := if (p.sign = 0 ∨ tq q d = 0) ∨ p.sign = tq q d then (if p.sign = 0 then tq q d else p.sign) else p.sign * (p * p - q * q * d).sign
instance bd_sign {x : Int} : Bd x.sign 1 := ⟨by
  rcases Int.lt_trichotomy x 0 with h | h | h
  · rw [Int.sign_eq_neg_one_of_neg h]; decide
  · rw [h]; decide
  · rw [Int.sign_eq_one_of_pos h]; decide⟩
theorem e_root_sign (k : Nat) (p q d : Int) {u v w : Nat} [Bd p u] [Bd q v] [Bd d w] (h : u + v + w < 500000) : (sm (k + 2)).call 6 [.d (.int p), .d (.int q), .d (.int d)] = re (.d (.int (rs p q d))) := by
  rw [r_root_sign, c_root_sign]
  have e : (if 0 < d then q.sign else 0) = tq q d := rfl
  simp (disch := omega) only [exs_cons, ex_par, evs_cons, evs_nil, ev_call, ev_var, gt_0, gt_s, bnd_re_, kArgs_, kCons_, e_sign_of, ev_ite, ev_cmp, kCmp_, cmW_d, c2_gt_, liftB_some, tst_, kIte_, decide_eq_true_eq, ev_cI, ite_int_, e, kPar_2, List.set_cons_zero, List.set_cons_succ, seqF_nx]
  simp (disch := omega) [e_sign_of, rs]
  congr 3
  by_cases h1 : p = 0
  · simp [h1]
  · simp [h1, or_assoc]
theorem e_product (k : Nat) (f a b c d : Int) {u v1 v2 w1 w2 : Nat} [Bd f u] [Bd a v1] [Bd b v2] [Bd c w1] [Bd d w2] (h : u + v1 + v2 + w1 + w2 < 200000) :
    (sm (k + 1)).call 8 [.d (.int f), .d (V2 a b), .d (V2 c d)] = re (.d (.int (a * c + f * b * d))) := by
  rw [r_product, c_product]
  simp (disch := omega)
theorem e_cross (k : Nat) (a b c d : Int) {v1 v2 w1 w2 : Nat} [Bd a v1] [Bd b v2] [Bd c w1] [Bd d w2] (h : v1 + v2 + w1 + w2 < 200000) :
    (sm (k + 1)).call 9 [.d (V2 a b), .d (V2 c d)] = re (.d (.int (a * d - b * c))) := by
  rw [r_cross, c_cross]
  simp (disch := omega)
theorem e_norm (k : Nat) (f a b : Int) {u v1 v2 : Nat} [Bd f u] [Bd a v1] [Bd b v2] (h : u + v1 + v2 < 60000) :
    (sm (k + 2)).call 10 [.d (.int f), .d (V2 a b)] = re (.d (.int (a * a + f * b * b))) := by
  rw [r_norm, c_norm]
  simp (disch := omega) [e_product]
theorem e_square_at (k : Nat) (f a b l : Int) {u v1 v2 w : Nat} [Bd f u] [Bd a v1] [Bd b v2] [Bd l w] (h : u + v1 + v2 + w < 30000) :
    (sm (k + 3)).call 19 [.d (A4 f a b l)] = re (.d (.int (f * (a * a + f * b * b - l * l)))) := by
  rw [r_square_at, c_square_at]
  simp (disch := omega) [e_norm]
def sg (f a b l v0 v1 lev : Int) : Int := rs (l * (a * v0 + f * b * v1) - lev * (a * a + f * b * b)) (-(a * v1 - b * v0)) (f * (a * a + f * b * b - l * l))
theorem e_sign_at (k : Nat) (f a b l c d lev : Int) {u v1 v2 w w1 w2 w3 : Nat} [Bd f u] [Bd a v1] [Bd b v2] [Bd l w] [Bd c w1] [Bd d w2] [Bd lev w3] (h : u + v1 + v2 + w + w1 + w2 + w3 < 30000) :
    (sm (k + 4)).call 21 [.d (A4 f a b l), .d (V2 c d), .d (.int lev)] = re (.d (.int (sg f a b l c d lev))) := by
  rw [r_sign_at, c_sign_at]
  simp (disch := omega) [e_norm, e_product, e_cross, e_square_at, e_root_sign, sg]
end
section
@[simp] theorem glob_0 (k : Nat) : (sm k).glob 0 = some (.int 3) := by rw [smk_glob]; rfl
structure Ang (f a b l : Int) : Prop where
  f1 : 1 ≤ f
  f3 : f ≤ 3
  g : gcdL [a, b, l] = 1
  n : l * l < a * a + f * b * b
theorem e_is_angle (k : Nat) (f a b l : Int) {u v1 v2 w : Nat} [Bd f u] [Bd a v1] [Bd b v2] [Bd l w] (h : u + v1 + v2 + w < 10000) (hA : Ang f a b l) :
    (sm (k + 3)).call 11 [.d (A4 f a b l)] = re (.d (.bool true)) := by
  rw [r_is_angle, c_is_angle]
  have h1 := e_are_wholes k [.int f, .int a, .int b, .int l] 4 (by simp)
  have h2 := e_common (k + 1) [a, b, l] (by simp)
  simp only [List.map_cons, List.map_nil] at h2
  simp (disch := omega) [h1, e_is_between, hA.f1, hA.f3, h2, hA.g, e_norm, hA.n]
theorem e_check_angle (k : Nat) (f a b l : Int) {u v1 v2 w : Nat} [Bd f u] [Bd a v1] [Bd b v2] [Bd l w] (h : u + v1 + v2 + w < 10000) (hA : Ang f a b l) :
    (sm (k + 4)).call 15 [.d (A4 f a b l)] = re (.d .none) := by
  rw [r_check_angle, c_check_angle]
  simp (disch := omega) [e_is_angle, hA]
theorem e_check_form_of (k : Nat) (f a b l : Int) : (sm (k + 1)).call 18 [.d (A4 f a b l), .d (.int f)] = re (.d .none) := by
  rw [r_check_form_of, c_check_form_of]
  simp
abbrev Vd (f a b sh xh sc xc port : Int) : PyData := .tuple [.int f, V2 a b, .tuple [.int sh, .int xh, .int sc, .int xc], .int port]
@[simp] theorem o2_addT_ (xs ys : List PyData) (h : xs.length + ys.length ≤ 100000) : o2 .add (.tuple xs) (.tuple ys) = some (.tuple (xs ++ ys)) := if_pos h
@[simp] theorem o2_addL_ (xs ys : List PyData) (h : xs.length + ys.length ≤ 100000) : o2 .add (.list xs) (.list ys) = some (.list (xs ++ ys)) := if_pos h
structure Val (f a b sh xh sc xc port : Int) : Prop where
  f1 : 1 ≤ f
  f3 : f ≤ 3
  p : 0 < port
  g : gcdL [a, b, sh, xh, sc, xc, port] = 1
variable {f a b sh xh sc xc port : Int}
def IsEnd (e : Str) : Prop := e = "head" ∨ e = "crank"
def IsWord (e : Str) : Prop := e = "steam" ∨ e = "exhaust" ∨ e = "both" ∨ e = "closed"
def wordOf (s x : Bool) : Str := if s then (if x then "both" else "steam") else if x then "exhaust" else "closed"
structure Sd where
  a : Int
  b : Int
  l : Int
  c : Int
  d : Int
  m : Int
abbrev sdD (s : Sd) : PyData := .tuple [.tuple [V2 s.a s.b, .int s.l], .tuple [V2 s.c s.d, .int s.m]]
def sdOf (e : Str) (a b sh xh sc xc : Int) : Sd := if e = "head" then ⟨a, b, sh, -a, -b, xh⟩ else ⟨-a, -b, sc, a, b, xc⟩
end
section
variable {f a b sh xh sc xc port : Int} {af aa ab al : Int} {e : Str} {t : Str}
class SdB (s : Sd) (w : outParam Nat) : Prop where
  a : s.a.natAbs < 2 ^ w
  b : s.b.natAbs < 2 ^ w
  l : s.l.natAbs < 2 ^ w
  c : s.c.natAbs < 2 ^ w
  d : s.d.natAbs < 2 ^ w
  m : s.m.natAbs < 2 ^ w
instance sdb_a {s : Sd} {w : Nat} [h : SdB s w] : Bd s.a w := ⟨h.a⟩
instance sdb_b {s : Sd} {w : Nat} [h : SdB s w] : Bd s.b w := ⟨h.b⟩
instance sdb_l {s : Sd} {w : Nat} [h : SdB s w] : Bd s.l w := ⟨h.l⟩
instance sdb_c {s : Sd} {w : Nat} [h : SdB s w] : Bd s.c w := ⟨h.c⟩
instance sdb_d {s : Sd} {w : Nat} [h : SdB s w] : Bd s.d w := ⟨h.d⟩
instance sdb_m {s : Sd} {w : Nat} [h : SdB s w] : Bd s.m w := ⟨h.m⟩
def up (af aa ab al v0 v1 lev : Int) : Bool := decide (0 < sg af aa ab al v0 v1 lev)
def st1 (af aa ab al : Int) (s : Sd) : Bool := up af aa ab al s.a s.b s.l
def st2 (af aa ab al : Int) (s : Sd) : Bool := up af aa ab al s.c s.d s.m
class AnB (f a b l : Int) : Prop where
  f : Bd f 4
  a : Bd a 135
  b : Bd b 135
  l : Bd l 135
variable {w : Nat}
abbrev sideT (x y l : Int) : PyData := .tuple [.str "side", V2 x y, .int l]
abbrev notT (t : PyData) : PyData := .tuple [.str "not", t]
abbrev andT (t u : PyData) : PyData := .tuple [.str "and", .tuple [t, u]]
def first (s : Sd) (t : Str) : PyData := if t = "steam" ∨ t = "both" then sideT s.a s.b s.l else notT (sideT s.a s.b s.l)
def second (s : Sd) (t : Str) : PyData := if t = "exhaust" ∨ t = "both" then sideT s.c s.d s.m else notT (sideT s.c s.d s.m)
end
section
variable {f a b sh xh sc xc port : Int} {af aa ab al : Int} {e : Str} {t : Str} {w : Nat}
end
section
variable {f a b sh xh sc xc port : Int} {af aa ab al : Int} {e : Str} {t : Str} {w : Nat}
inductive Lf : PyData → Prop
  | s (x y l : Int) : Lf (sideT x y l)
  | n (x y l : Int) : Lf (notT (sideT x y l))
theorem lf_first (s : Sd) (t : Str) : Lf (first s t) := by
  unfold first
  split
  · exact .s _ _ _
  · exact .n _ _ _
theorem lf_second (s : Sd) (t : Str) : Lf (second s t) := by
  unfold second
  split
  · exact .s _ _ _
  · exact .n _ _ _
theorem lf_lay {t : PyData} (h : Lf t) : t.canLay0 = true ∧ t.depth ≤ 20 := by
  cases h <;> simp [PyData.canLay0, PyData.canLayAll0, PyData.depth, PyData.depthAll]
inductive Tr : PyData → Prop
  | a {t u : PyData} : Lf t → Lf u → Tr (andT t u)
  | no : Tr (notT (.tuple [.str "all"]))
inductive Tv (af aa ab al : Int) : PyData → Bool → Prop
  | s (x y l : Int) : Tv af aa ab al (sideT x y l) (up af aa ab al x y l)
  | n (x y l : Int) : Tv af aa ab al (notT (sideT x y l)) (!up af aa ab al x y l)
end
section
variable {f a b sh xh sc xc port : Int} {af aa ab al : Int} {e : Str} {t : Str} {w : Nat} {n m : Int} {u v : Nat}
structure Slk (n m : Int) : Prop where
  n0 : 0 ≤ n
  m0 : 0 < m
  g : Nat.gcd n.natAbs m.natAbs = 1
def lessT (x y l n m g : Int) : PyData := sideT (x * m) (y * m) (l * m + g * n)
def sF (s : Sd) (t : Str) (n m g : Int) : PyData := if t = "steam" ∨ t = "both" then lessT s.a s.b s.l n m g else notT (lessT s.a s.b s.l n m (-g))
def sX (s : Sd) (t : Str) (n m g : Int) : PyData := if t = "exhaust" ∨ t = "both" then lessT s.c s.d s.m n m g else notT (lessT s.c s.d s.m n m (-g))
def blows (s : Sd) : Prop := s.l + s.m < 0
instance (s : Sd) : Decidable (blows s) := by unfold blows; infer_instance
def pT (s : Sd) (t : Str) (n m : Int) : PyData := if (t = "both" ∧ ¬ blows s) ∨ (t = "closed" ∧ blows s) then notT (.tuple [.str "all"]) else andT (sF s t n m (-1)) (sX s t n m (-1))
theorem tr_sure (s : Sd) (t : Str) (n m g : Int) : Tr (andT (sF s t n m g) (sX s t n m g)) := by
  refine .a ?_ ?_
  · unfold sF lessT; split
    · exact .s _ _ _
    · exact .n _ _ _
  · unfold sX lessT; split
    · exact .s _ _ _
    · exact .n _ _ _
theorem tr_pT (s : Sd) (t : Str) (n m : Int) : Tr (pT s t n m) := by
  unfold pT
  split
  · exact .no
  · exact tr_sure _ _ _ _ _
end
section
theorem sq_lt {x y : Int} (h0 : 0 ≤ x) (h : x < y) : x * x < y * y := Int.mul_self_lt_mul_self h0 h
theorem sq_lt' {x y : Int} (h0 : y ≤ 0) (h : x < y) : y * y < x * x := by
  have := sq_lt (x := -y) (y := -x) (by omega) (by omega)
  rwa [Int.neg_mul_neg, Int.neg_mul_neg] at this
theorem sign_pos {x : Int} : 0 < x.sign ↔ 0 < x := Int.sign_pos_iff
theorem rs_pos {p q d : Int} (hd : 0 < d) : 0 < rs p q d ↔ (0 ≤ p ∧ 0 ≤ q ∧ (0 < p ∨ 0 < q)) ∨ (0 < p ∧ q < 0 ∧ q * q * d < p * p) ∨ (p < 0 ∧ 0 < q ∧ p * p < q * q * d) := by
  unfold rs tq
  rw [if_pos hd]
  rcases Int.lt_trichotomy p 0 with hp | hp | hp
  · rw [Int.sign_eq_neg_one_of_neg hp]
    rcases Int.lt_trichotomy q 0 with hq | hq | hq
    · rw [Int.sign_eq_neg_one_of_neg hq]
      simp
      omega
    · subst hq
      simp
      omega
    · rw [Int.sign_eq_one_of_pos hq]
      simp
      have := Int.sign_neg_iff (x := p * p - q * q * d)
      constructor
      · intro h
        right; right
        exact ⟨hp, hq, by omega⟩
      · rintro (h | h | h)
        · omega
        · omega
        · omega
  · subst hp
    simp
    omega
  · rw [Int.sign_eq_one_of_pos hp]
    rcases Int.lt_trichotomy q 0 with hq | hq | hq
    · rw [Int.sign_eq_neg_one_of_neg hq]
      simp
      constructor
      · intro h
        right; left
        exact ⟨hp, hq, by omega⟩
      · rintro (h | h | h)
        · omega
        · omega
        · omega
    · subst hq
      simp
      omega
    · rw [Int.sign_eq_one_of_pos hq]
      simp
      omega
theorem rs_neg (p q d : Int) : rs (-p) (-q) d = - rs p q d := by
  unfold rs tq
  rw [Int.sign_neg, Int.sign_neg]
  have e : -p * -p - -q * -q * d = p * p - q * q * d := by rw [Int.neg_mul_neg, Int.neg_mul_neg]
  rw [e]
  by_cases hd : 0 < d
  · rw [if_pos hd, if_pos hd]
    by_cases h : (p.sign = 0 ∨ q.sign = 0) ∨ p.sign = q.sign
    · have h' : (-p.sign = 0 ∨ -q.sign = 0) ∨ -p.sign = -q.sign := by omega
      rw [if_pos h, if_pos h']
      by_cases h0 : p.sign = 0
      · rw [if_pos h0, if_pos (by omega)]
      · rw [if_neg h0, if_neg (by omega)]
    · have h' : ¬ ((-p.sign = 0 ∨ -q.sign = 0) ∨ -p.sign = -q.sign) := by omega
      rw [if_neg h, if_neg h', Int.neg_mul]
  · rw [if_neg hd, if_neg hd]
    simp
    by_cases h0 : p = 0
    · simp [h0]
    · simp [h0]
theorem rs_mono {p p' q d : Int} (hd : 0 < d) (h : p ≤ p') (k : 0 < rs p q d) : 0 < rs p' q d := by
  rw [rs_pos hd] at k ⊢
  rcases k with ⟨h1, h2, h3⟩ | ⟨h1, h2, h3⟩ | ⟨h1, h2, h3⟩
  · left; omega
  · right; left
    refine ⟨by omega, h2, ?_⟩
    by_cases e : p = p'
    · subst e; exact h3
    · have := sq_lt (x := p) (y := p') (by omega) (by omega)
      omega
  · by_cases h0 : 0 ≤ p'
    · left; omega
    · right; right
      refine ⟨by omega, h2, ?_⟩
      by_cases e : p = p'
      · subst e; exact h3
      · have := sq_lt' (x := p) (y := p') (by omega) (by omega)
        omega
theorem rs_strict {p p' q d : Int} (hd : 0 < d) (h : p < p') (k : ¬ 0 < rs (-p) (-q) d) : 0 < rs p' q d := by
  rw [rs_pos hd] at k ⊢
  rw [Int.neg_mul_neg, Int.neg_mul_neg] at k
  rcases Int.lt_trichotomy q 0 with hq | hq | hq
  · have hp : 0 < p := by
      by_cases hp : 0 < p
      · exact hp
      · exact absurd (Or.inl ⟨by omega, by omega, by omega⟩) k
    have h3 : ¬ (p * p < q * q * d) := fun z => k (.inr (.inr ⟨by omega, by omega, z⟩))
    have := sq_lt (x := p) (y := p') (by omega) h
    right; left
    exact ⟨by omega, hq, by omega⟩
  · subst hq
    have hp : 0 ≤ p := by
      by_cases hp : 0 ≤ p
      · exact hp
      · exact absurd (Or.inl ⟨by omega, by omega, by omega⟩) k
    left; omega
  · by_cases h0 : 0 ≤ p'
    · left; omega
    · have h3 : ¬ (q * q * d < p * p) := fun z => k (.inr (.inl ⟨by omega, by omega, z⟩))
      have := sq_lt' (x := p) (y := p') (by omega) h
      right; right
      exact ⟨by omega, hq, by omega⟩
section
variable {f a b l v0 v1 : Int}
theorem ang_n (h : Ang f a b l) : 0 < a * a + f * b * b := by
  have h1 := h.n
  have h2 : 0 ≤ l * l := by
    rcases Int.le_total 0 l with q | q
    · exact Int.mul_nonneg q q
    · exact Int.mul_nonneg_of_nonpos_of_nonpos q q
  omega
theorem ang_d (h : Ang f a b l) : 0 < f * (a * a + f * b * b - l * l) := Int.mul_pos (by have := h.f1; omega) (by have := h.n; omega)
theorem sg_neg (f a b l v0 v1 lev : Int) : sg f a b l (-v0) (-v1) lev = - sg f a b l v0 v1 (-lev) := by
  unfold sg
  rw [← rs_neg]
  congr 1 <;> grind
theorem sg_mono (h : Ang f a b l) {x y : Int} (hxy : x ≤ y) (k : 0 < sg f a b l v0 v1 y) : 0 < sg f a b l v0 v1 x := by
  unfold sg at *
  refine rs_mono (ang_d h) ?_ k
  have := Int.mul_le_mul_of_nonneg_right hxy (Int.le_of_lt (ang_n h))
  omega
theorem sg_strict (h : Ang f a b l) {x y : Int} (hxy : x < y) (k : ¬ sg f a b l v0 v1 y < 0) : 0 < sg f a b l v0 v1 x := by
  unfold sg at *
  have hm := Int.mul_lt_mul_of_pos_right hxy (ang_n h)
  refine rs_strict (p := l * (a * v0 + f * b * v1) - y * (a * a + f * b * b)) (ang_d h) (by omega) fun z => k ?_
  rw [rs_neg] at z
  omega
end
def Face (s : Sd) : Prop := s.c = -s.a ∧ s.d = -s.b
theorem face_of (e : Str) (a b sh xh sc xc : Int) : Face (sdOf e a b sh xh sc xc) := by
  unfold sdOf Face
  split
  · exact ⟨rfl, rfl⟩
  · constructor <;> simp
def uS (f a b l : Int) (s : Sd) (n m g : Int) : Bool := up f a b l (s.a * m) (s.b * m) (s.l * m + g * n)
def uX (f a b l : Int) (s : Sd) (n m g : Int) : Bool := up f a b l (s.c * m) (s.d * m) (s.m * m + g * n)
section
variable {f a b l n m : Int} {s : Sd}
theorem uS_mono (h : Ang f a b l) (hn : 0 ≤ n) (k : uS f a b l s n m 1 = true) : uS f a b l s n m (-1) = true := by
  unfold uS up at *
  rw [decide_eq_true_eq] at *
  exact sg_mono h (by omega) k
theorem uX_mono (h : Ang f a b l) (hn : 0 ≤ n) (k : uX f a b l s n m 1 = true) : uX f a b l s n m (-1) = true := by
  unfold uX up at *
  rw [decide_eq_true_eq] at *
  exact sg_mono h (by omega) k
theorem uX_eq (hF : Face s) (g : Int) : uX f a b l s n m g = decide (sg f a b l (s.a * m) (s.b * m) (-(s.m * m + g * n)) < 0) := by
  unfold uX up
  rw [hF.1, hF.2, Int.neg_mul, Int.neg_mul, sg_neg]
  congr 1
  apply propext
  omega
theorem no_both (h : Ang f a b l) (hF : Face s) (hm : 0 < m) (hb : ¬ blows s) (g g' : Int) (hg : g + g' = 0) (k1 : uS f a b l s n m g = true) (k2 : uX f a b l s n m g' = true) : False := by
  rw [uX_eq hF] at k2
  unfold uS up at k1
  rw [decide_eq_true_eq] at *
  unfold blows at hb
  have h0 : 0 ≤ (s.l + s.m) * m := Int.mul_nonneg (by omega) (by omega)
  rw [Int.add_mul] at h0
  have e : g' * n = -(g * n) := by
    have : g' = -g := by omega
    rw [this, Int.neg_mul]
  have := sg_mono h (x := -(s.m * m + g' * n)) (y := s.l * m + g * n) (v0 := s.a * m) (v1 := s.b * m) (by omega) k1
  omega
theorem no_none (h : Ang f a b l) (hF : Face s) (hm : 0 < m) (hb : blows s) (g g' : Int) (hg : g + g' = 0) (k1 : uS f a b l s n m g = false) (k2 : uX f a b l s n m g' = false) : False := by
  rw [uX_eq hF] at k2
  unfold uS up at k1
  rw [decide_eq_false_iff_not] at *
  unfold blows at hb
  have h0 : (s.l + s.m) * m < 0 := Int.mul_neg_of_neg_of_pos hb hm
  rw [Int.add_mul] at h0
  have e : g' * n = -(g * n) := by
    have : g' = -g := by omega
    rw [this, Int.neg_mul]
  have := sg_strict h (x := s.l * m + g * n) (y := -(s.m * m + g' * n)) (v0 := s.a * m) (v1 := s.b * m) (by omega) k2
  exact k1 this
end
end
section
def WS (N : Nat) (S T : Sto) : Prop := ∃ r c t : Int, S = [PyData.int r, .int c, .int t] :: T ∧ 0 ≤ r ∧ 0 ≤ c ∧ c < 2147483587 ∧ 0 ≤ t ∧ t ≤ N
theorem WS.mono {N M : Nat} {S T : Sto} (h : WS N S T) (l : N ≤ M) : WS M S T := by
  obtain ⟨r, c, t, h1, h2, h3, h4, h5, h6⟩ := h
  exact ⟨r, c, t, h1, h2, h3, h4, h5, by omega⟩
theorem ix_l0 (a b c : PyData) (T : Sto) : ixW (.l 0) (.d (.int 0)) ([a, b, c] :: T) = some (.ok (.d a) ([a, b, c] :: T)) := rfl
theorem ix_l1 (a b c : PyData) (T : Sto) : ixW (.l 0) (.d (.int 1)) ([a, b, c] :: T) = some (.ok (.d b) ([a, b, c] :: T)) := rfl
theorem ix_l2 (a b c : PyData) (T : Sto) : ixW (.l 0) (.d (.int 2)) ([a, b, c] :: T) = some (.ok (.d c) ([a, b, c] :: T)) := rfl
theorem sb_0 (x a b c : PyData) (T : Sto) (ρ : Env') : asg (.sb 0 0) x (some (.l 0) :: ρ) ([a, b, c] :: T) = some (.ok (some (.l 0) :: ρ) ([x, b, c] :: T)) := by rw [asg]; rfl
theorem sb_1 (x a b c : PyData) (T : Sto) (ρ : Env') : asg (.sb 0 1) x (some (.l 0) :: ρ) ([a, b, c] :: T) = some (.ok (some (.l 0) :: ρ) ([a, x, c] :: T)) := by rw [asg]; rfl
theorem sb_2 (x a b c : PyData) (T : Sto) (ρ : Env') : asg (.sb 0 2) x (some (.l 0) :: ρ) ([a, b, c] :: T) = some (.ok (some (.l 0) :: ρ) ([a, b, x] :: T)) := by rw [asg]; rfl
theorem bd_of {x : Int} {w : Nat} (h : x.natAbs < 2 ^ w) : Bd x w := ⟨h⟩
theorem fm_pos (a : Int) {n : Int} (h : 0 < n) : 0 ≤ a.fmod n ∧ a.fmod n < n := ⟨Int.fmod_nonneg_of_pos a h, Int.fmod_lt_of_pos a h⟩
@[simp] theorem o2_mod_ (i j : Int) (h : j ≠ 0) : o2 .mod (.int i) (.int j) = some (.int (i.fmod j)) := if_pos h
theorem divOk_ {j : Int} {w : Nat} (h : Bd j w) (h0 : j ≠ 0) (hw : w < 9000) : divOk j = true := by
  unfold divOk
  have := h.log
  rw [Bool.and_eq_true]
  exact ⟨decide_eq_true h0, decide_eq_true (by omega)⟩
theorem o2_fdiv_ {i j : Int} {w : Nat} [h : Bd j w] (h0 : j ≠ 0) (hw : w < 9000) : o2 .fdiv (.int i) (.int j) = some (.int (i.fdiv j)) := by
  show (if divOk j = true then _ else _) = _
  rw [if_pos (divOk_ h h0 hw)]
theorem e_draw (k : Nat) {n : Int} {u N : Nat} [hb : Bd n u] (hu : u < 1000) (hn : 0 < n) (hN : N ≤ 100000) {S T : Sto} (h : WS N S T) :
    wp ((sm (k + 1)).call 42 [.l 0, .d (.int n)]) S fun w S' => ∃ v : Int, w = .d (.int v) ∧ 0 ≤ v ∧ v < n ∧ WS (N + 1) S' T := by
  obtain ⟨r, c, t, rfl, h1, h2, h3, h4, h5⟩ := h
  rw [r__law_draw, c__law_draw]
  have hlog := hb.log
  unfold wp finM
  by_cases hr : 0 < r
  · have hd : b1 .divmod [.int r, .int n] = some (.tuple [.int (r / n), .int (r % n)]) := if_pos ⟨hn, by omega⟩
    exact ⟨.d (.int (r % n)), [.int (r / n), .int c, .int t] :: T, by simp [bnd, re, ix_l0, hr, liftB, lift, hd, kAsg, sb_0, asgs, asg_tp, onD, liftW, asg_nm, asgs_cons, fin], r % n, rfl, Int.emod_nonneg _ (by omega), Int.emod_lt_of_pos _ hn, r / n, c, t, rfl, Int.ediv_nonneg h1 (by omega), h2, h3, h4, by omega⟩
  · have e1 := fm_pos c (n := 8009) (by decide)
    have b1 : Bd c 31 := ⟨by omega⟩
    have b2 : Bd (c.fmod 8009 + 31013) 16 := ⟨by omega⟩
    have b3 : Bd (t + 1) 17 := ⟨by omega⟩
    have e2 := fm_pos (c * (c.fmod 8009 + 31013) + 60101 * (t + 1) + 23) (n := 2147483587) (by decide)
    have e3 := fm_pos (((c * (c.fmod 8009 + 31013) + 60101 * (t + 1) + 23).fmod 2147483587).fdiv 59) hn
    have hn0 : n ≠ 0 := by omega
    have m1 : o2 .mul (.int c) (.int (c.fmod 8009 + 31013)) = some (.int (c * (c.fmod 8009 + 31013))) := o2_mul_ (by decide)
    have m2 : o2 .mul (.int 60101) (.int (t + 1)) = some (.int (60101 * (t + 1))) := o2_mul_ (by decide)
    have m3 : ∀ x : Int, o2 .fdiv (.int x) (.int 59) = some (.int (x.fdiv 59)) := fun x => o2_fdiv_ (by decide) (by decide)
    generalize hc' : (c * (c.fmod 8009 + 31013) + 60101 * (t + 1) + 23).fmod 2147483587 = c' at *
    exact ⟨.d (.int ((c'.fdiv 59).fmod n)), [.int r, .int c', .int (t + 1)] :: T, by simp [bnd, re, ix_l0, ix_l1, ix_l2, hr, liftB, lift, kAsg, sb_0, sb_1, sb_2, asgs, asg_tp, onD, liftW, asg_nm, asgs_cons, fin, m1, m2, m3, hn0]; simp [hc'], (c'.fdiv 59).fmod n, rfl, e3.1, e3.2, r, c', t + 1, rfl, h1, e2.1, e2.2, by omega, by omega⟩
end
section
theorem l_sign (k : Nat) (i : Int) : (sm (k + 1)).call 47 [.d (.int i)] = re (.d (.int i.sign)) := by
  rw [r__law_sign, c__law_sign]
  simp
  congr 3
  split
  · rw [Int.sign_eq_one_of_pos (by omega)]
  · split
    · rw [show i = 0 by omega]; rfl
    · rw [Int.sign_eq_neg_one_of_neg (by omega)]
theorem rs_alt {p q d : Int} : rs p q d = if 0 ≤ p.sign * tq q d then (if p.sign = 0 then tq q d else p.sign) else p.sign * (p * p - d * q * q).sign := by
  unfold rs
  have e : d * q * q = q * q * d := by grind
  rw [e]
  have h1 : p.sign = 0 ∨ p.sign = 1 ∨ p.sign = -1 := by
    rcases Int.lt_trichotomy p 0 with h | h | h
    · rw [Int.sign_eq_neg_one_of_neg h]; simp
    · rw [h]; simp
    · rw [Int.sign_eq_one_of_pos h]; simp
  have h2 : tq q d = 0 ∨ tq q d = 1 ∨ tq q d = -1 := by
    unfold tq
    split
    · rcases Int.lt_trichotomy q 0 with h | h | h
      · rw [Int.sign_eq_neg_one_of_neg h]; simp
      · rw [h]; simp
      · rw [Int.sign_eq_one_of_pos h]; simp
    · simp
  rcases h1 with h1 | h1 | h1 <;> rcases h2 with h2 | h2 | h2 <;> simp [h1, h2]
theorem l_sign2 (k : Nat) (p q d : Int) {u v w : Nat} [Bd p u] [Bd q v] [Bd d w] (h : u + v + w < 500000) : (sm (k + 2)).call 48 [.d (.int p), .d (.int q), .d (.int d)] = re (.d (.int (rs p q d))) := by
  rw [r__law_sign_of_two, c__law_sign_of_two]
  have e : (if 0 < d then q.sign else 0) = tq q d := rfl
  have hb : Bd (tq q d) 1 := by
    unfold tq
    split
    · exact bd_sign
    · exact ⟨by decide⟩
  simp (disch := omega) only [exs_cons, ex_par, evs_cons, evs_nil, ev_call, ev_var, gt_0, gt_s, bnd_re_, kArgs_, kCons_, l_sign, ev_ite, ev_cmp, kCmp_, cmW_d, c2_gt_, liftB_some, tst_, kIte_, decide_eq_true_eq, ev_cI, ite_int_, e, kPar_2, List.set_cons_zero, List.set_cons_succ, seqF_nx]
  rw [rs_alt]
  simp (disch := omega) [l_sign]
theorem l_norm (k : Nat) (f a b : Int) {u v1 v2 : Nat} [Bd f u] [Bd a v1] [Bd b v2] (h : u + v1 + v2 < 60000) :
    (sm (k + 1)).call 50 [.d (.int f), .d (V2 a b)] = re (.d (.int (a * a + f * b * b))) := by
  rw [r__law_norm, c__law_norm]
  simp (disch := omega)
theorem l_arrow (k : Nat) (f a b l : Int) {u v1 v2 w : Nat} [Bd f u] [Bd a v1] [Bd b v2] [Bd l w] (h : u + v1 + v2 + w < 9000) :
    (sm (k + 2)).call 54 [.d (A4 f a b l)] = re (.d (.tuple [V2 (l * a) b, V2 (f * l * b) (0 - a), .int (f * (a * a + f * b * b - l * l)), .int (a * a + f * b * b)])) := by
  rw [r__law_arrow, c__law_arrow]
  simp (disch := omega) [l_norm]
theorem l_side (k : Nat) (f a b l c d lev : Int) {u v1 v2 w w1 w2 w3 : Nat} [Bd f u] [Bd a v1] [Bd b v2] [Bd l w] [Bd c w1] [Bd d w2] [Bd lev w3] (h : u + v1 + v2 + w + w1 + w2 + w3 < 9000) :
    (sm (k + 3)).call 55 [.d (A4 f a b l), .d (V2 c d), .d (.int lev)] = re (.d (.int (sg f a b l c d lev))) := by
  rw [r__law_side, c__law_side]
  simp (disch := omega) [l_arrow, l_sign2, sg]
  congr 1 <;> grind
variable {f a b sh xh sc xc port : Int} {af aa ab al : Int} {e : Str} {t : Str} {w : Nat} {n m : Int} {u v : Nat}
theorem up_neg (f a b l v0 v1 lev : Int) : up f a b l (-v0) (-v1) lev = decide (sg f a b l v0 v1 (0 - lev) < 0) := by
  unfold up
  rw [sg_neg, Int.zero_sub]
  congr 1
  apply propext
  omega
end
section
abbrev euT : Ex := .cmp .gt (.var 3) (.cI 0)
abbrev euB : List Sx := [.par [2, 3] [.var 3, .bin .mod (.blt .int [.var 2]) (.var 3)]]
theorem eu_step (Γ : Sm) (A B : Option W) (l r : Nat) (h : 0 < r) (n : Nat) : whW Γ euT euB (n + 1) [A, B, some (.d (.int l)), some (.d (.int r))] = whW Γ euT euB n [A, B, some (.d (.int r)), some (.d (.int (l % r : Nat)))] := by
  have h0 : (r : Int) ≠ 0 := by omega
  have e : o2 .mod (.int (l : Int)) (.int (r : Int)) = some (.int ((l % r : Nat) : Int)) := by
    rw [o2_mod_ _ _ h0, Int.fmod_eq_emod_of_nonneg _ (by omega)]
    rfl
  refine whW_go ?_ ?_
  · simp [h]
  · simp [e]
theorem eu_end (Γ : Sm) (A B : Option W) (l n : Nat) : whW Γ euT euB (n + 1) [A, B, some (.d (.int l)), some (.d (.int (0 : Nat)))] = re (.nx [A, B, some (.d (.int l)), some (.d (.int (0 : Nat)))]) := by
  refine whW_end ?_
  simp
theorem eu (Γ : Sm) (A B : Option W) : ∀ (n l r : Nat), r < 2 ^ n → ∀ fu, 2 * n + 2 ≤ fu → whW Γ euT euB fu [A, B, some (.d (.int l)), some (.d (.int r))] = re (.nx [A, B, some (.d (.int (Nat.gcd l r : Nat))), some (.d (.int (0 : Nat)))])
  | 0, l, r, h, fu, hf => by
    have h0 : r = 0 := by omega
    subst h0
    obtain ⟨f', rfl⟩ : ∃ f', fu = f' + 1 := ⟨fu - 1, by omega⟩
    rw [eu_end, Nat.gcd_zero_right]
  | n + 1, l, r, h, fu, hf => by
    obtain ⟨f', rfl⟩ : ∃ f', fu = f' + 2 := ⟨fu - 2, by omega⟩
    by_cases h0 : r = 0
    · subst h0
      rw [eu_end Γ A B l (f' + 1), Nat.gcd_zero_right]
    · rw [eu_step Γ A B l r (by omega) (f' + 1)]
      by_cases h1 : l % r = 0
      · rw [h1, eu_end Γ A B r f']
        have : Nat.gcd l r = r := by
          rw [Nat.gcd_comm, Nat.gcd_rec, h1, Nat.gcd_zero_left]
        rw [this]
      · rw [eu_step Γ A B r (l % r) (by omega) f']
        have hlt : l % r < r := Nat.mod_lt _ (by omega)
        have h2 : r % (l % r) < l % r := Nat.mod_lt _ (by omega)
        have h3 : l % r + r % (l % r) ≤ r := by
          have e := Nat.div_add_mod r (l % r)
          have : 1 ≤ r / (l % r) := Nat.div_pos (by omega) (by omega)
          have : l % r * 1 ≤ l % r * (r / (l % r)) := Nat.mul_le_mul_left _ this
          omega
        have h4 : r % (l % r) < 2 ^ n := by rw [Nat.pow_succ] at h; omega
        rw [eu Γ A B n (l % r) (r % (l % r)) h4 f' (by omega)]
        have e : Nat.gcd (l % r) (r % (l % r)) = Nat.gcd l r := by
          rw [Nat.gcd_comm l r, Nat.gcd_rec r l, Nat.gcd_rec (l % r) r, Nat.gcd_comm]
        rw [e]
theorem l_common (k : Nat) (x y : Int) {w : Nat} [hb : Bd y w] (hw : w ≤ 8990) : (sm (k + 1)).call 45 [.d (.int x), .d (.int y)] = re (.d (.int (Nat.gcd x.natAbs y.natAbs : Nat))) := by
  rw [r__law_common, c__law_common]
  have h := eu (sm k) (some (.d (.int x))) (some (.d (.int y))) w x.natAbs y.natAbs hb.h FU (by
    have : (2 : Nat) ^ 40 = FU := rfl
    have : (2 : Nat) ^ 40 = 1099511627776 := by decide
    omega)
  simp [ex_whl, h]
end
section
abbrev rtT : Ex := .cmp .gt (.bin .sub (.var 2) (.var 1)) (.cI 1)
abbrev rtB : List Sx := [.set 3 (.bin .fdiv (.bin .add (.var 1) (.var 2)) (.cI 2)), .asgn (.tp [.nm 1, .nm 2]) (.ite (.cmp .le (.bin .mul (.var 3) (.var 3)) (.var 0)) (.tup [.var 3, .var 2]) (.tup [.var 1, .var 3]))]
theorem rt_test (Γ : Sm) (x : W) (lo hi : Int) (z : Option W) : evE Γ rtT [some x, some (.d (.int lo)), some (.d (.int hi)), z] = re (.d (.bool (decide (1 < hi - lo)))) := by
  simp
theorem rt_go (Γ : Sm) {w : Nat} (hw : w < 100000) : ∀ (n : Nat) (x lo hi : Int) (z : Option W) (fu : Nat), Bd x w → 0 ≤ lo → lo < hi → hi ≤ x + 1 → hi - lo ≤ 2 ^ n → lo * lo ≤ x → x < hi * hi → n + 1 ≤ fu →
    ∃ r z', whW Γ rtT rtB fu [some (.d (.int x)), some (.d (.int lo)), some (.d (.int hi)), z] = re (.nx [some (.d (.int x)), some (.d (.int r)), some (.d (.int (r + 1))), z']) ∧ 0 ≤ r ∧ r ≤ x ∧ r * r ≤ x ∧ x < (r + 1) * (r + 1) := by
  intro n
  induction n with
  | zero =>
    intro x lo hi z fu hb h0 h1 h2 h3 h4 h5 hf
    obtain ⟨f', rfl⟩ : ∃ f', fu = f' + 1 := ⟨fu - 1, by omega⟩
    have e : hi = lo + 1 := by omega
    subst e
    exact ⟨lo, z, whW_end (by rw [rt_test, decide_eq_false (by omega)]), h0, by omega, h4, h5⟩
  | succ n ih =>
    intro x lo hi z fu hb h0 h1 h2 h3 h4 h5 hf
    obtain ⟨f', rfl⟩ : ∃ f', fu = f' + 1 := ⟨fu - 1, by omega⟩
    by_cases he : hi = lo + 1
    · subst he
      exact ⟨lo, z, whW_end (by rw [rt_test, decide_eq_false (by omega)]), h0, by omega, h4, h5⟩
    · have hm : (lo + hi).fdiv 2 = (lo + hi) / 2 := Int.fdiv_eq_ediv_of_nonneg _ (by decide)
      generalize hmd : (lo + hi) / 2 = md at hm
      have hd : 2 * md ≤ lo + hi ∧ lo + hi < 2 * md + 2 := by omega
      have hlx : md ≤ x := by omega
      have hbm : Bd md w := ⟨by have := hb.h; omega⟩
      have d1 : o2 .fdiv (.int (lo + hi)) (.int 2) = some (.int md) := by rw [o2_fdiv_ (by decide) (by decide), hm]
      have hp : (2 : Int) ^ (n + 1) = 2 ^ n * 2 := by rw [Int.pow_succ]
      by_cases hc : md * md ≤ x
      · obtain ⟨r, z', h6, h7⟩ := ih x md hi (some (.d (.int md))) f' hb (by omega) (by omega) h2 (by omega) hc h5 (by omega)
        refine ⟨r, z', ?_, h7⟩
        rw [whW_go (ρ' := [some (.d (.int x)), some (.d (.int md)), some (.d (.int hi)), some (.d (.int md))]) ?_ ?_]
        · exact h6
        · rw [rt_test, decide_eq_true (by omega)]
        · simp (disch := omega) [d1, hc]
      · obtain ⟨r, z', h6, h7⟩ := ih x lo md (some (.d (.int md))) f' hb h0 (by omega) (by omega) (by omega) h4 (by omega) (by omega)
        refine ⟨r, z', ?_, h7⟩
        rw [whW_go (ρ' := [some (.d (.int x)), some (.d (.int lo)), some (.d (.int md)), some (.d (.int md))]) ?_ ?_]
        · exact h6
        · rw [rt_test, decide_eq_true (by omega)]
        · simp (disch := omega) [d1, hc]
theorem l_root (k : Nat) (x : Int) {w : Nat} [hb : Bd x w] (hw : w < 1000) (h0 : 0 ≤ x) : ∃ r : Int, (sm (k + 1)).call 52 [.d (.int x)] = re (.d (.int r)) ∧ 0 ≤ r ∧ r ≤ x ∧ r * r ≤ x ∧ x < (r + 1) * (r + 1) := by
  rw [r__law_root, c__law_root]
  have hx : x < 2 ^ w := by
    have := hb.h
    have e : ((2 ^ w : Nat) : Int) = 2 ^ w := by simp
    omega
  have hq : x < (x + 1) * (x + 1) := by
    have : (x + 1) * (x + 1) = x * x + 2 * x + 1 := by grind
    have := Int.mul_nonneg h0 h0
    omega
  obtain ⟨r, z', h1, h2⟩ := rt_go (sm k) (w := w) (by omega) (w + 1) x 0 (x + 1) none FU hb (by omega) (by omega) (by omega) (by rw [Int.pow_succ]; omega) (by omega) hq (by
    have : (2 : Nat) ^ 40 = FU := rfl
    have : (2 : Nat) ^ 40 = 1099511627776 := by decide
    omega)
  refine ⟨r, ?_, h2⟩
  simp [ex_whl, h1]
theorem gcdL_mul (c : Nat) : ∀ (ys : List Int) (g : Nat), (ys.map fun y => (c : Int) * y).foldl (fun g x => Nat.gcd g x.natAbs) (c * g) = c * ys.foldl (fun g x => Nat.gcd g x.natAbs) g
  | [], g => rfl
  | y :: ys, g => by
    simp only [List.map_cons, List.foldl_cons]
    rw [Int.natAbs_mul, Int.natAbs_natCast, Nat.gcd_mul_left]
    exact gcdL_mul c ys _
theorem fold_dvd : ∀ (ys : List Int) (g : Nat), (ys.foldl (fun g x => Nat.gcd g x.natAbs) g) ∣ g ∧ ∀ y ∈ ys, ((ys.foldl (fun g x => Nat.gcd g x.natAbs) g : Nat) : Int) ∣ y
  | [], g => ⟨Nat.dvd_refl _, fun y h => by cases h⟩
  | y :: ys, g => by
    simp only [List.foldl_cons]
    obtain ⟨h1, h2⟩ := fold_dvd ys (Nat.gcd g y.natAbs)
    refine ⟨Nat.dvd_trans h1 (Nat.gcd_dvd_left _ _), fun z hz => ?_⟩
    rcases List.mem_cons.mp hz with rfl | hz
    · exact Int.natAbs_dvd_natAbs.mp (by rw [Int.natAbs_natCast]; exact Nat.dvd_trans h1 (Nat.gcd_dvd_right _ _))
    · exact h2 z hz
theorem gcdL_dvd {xs : List Int} {x : Int} (h : x ∈ xs) : (gcdL xs : Int) ∣ x := (fold_dvd xs 0).2 x h
def redL (xs : List Int) : List Int := xs.map fun x => x / (gcdL xs : Int)
theorem redL_eq {xs : List Int} (h : 0 < gcdL xs) : xs = (redL xs).map fun y => (gcdL xs : Int) * y := by
  unfold redL
  rw [List.map_map]
  conv => lhs; rw [← List.map_id xs]
  refine List.map_congr_left fun x hx => ?_
  show x = (gcdL xs : Int) * (x / (gcdL xs : Int))
  exact (Int.mul_ediv_cancel' (gcdL_dvd hx)).symm
theorem redL_one {xs : List Int} (h : 0 < gcdL xs) : gcdL (redL xs) = 1 := by
  have e := congrArg gcdL (redL_eq h)
  have e2 := gcdL_mul (gcdL xs) (redL xs) 0
  rw [Nat.mul_zero] at e2
  have e3 : gcdL xs = gcdL xs * gcdL (redL xs) := by
    conv => lhs; rw [e]
    exact e2
  exact Nat.eq_of_mul_eq_mul_left h (by rw [← e3, Nat.mul_one])
theorem l_reduced (k : Nat) (xs : List Int) {w : Nat} (hb : ∀ x ∈ xs, Bd x w) (hw : w ≤ 8990) (hl : xs.length ≤ 1000) (hg : 0 < gcdL xs) : (sm (k + 2)).call 51 [.d (.tuple (xs.map PyData.int))] = re (.d (.tuple ((redL xs).map PyData.int))) := by
  rw [r__law_reduced, c__law_reduced]
  obtain ⟨ρ', ⟨l, g, zs, e1, e2, hz, rfl⟩, hr⟩ := frW_rel (Γ := sm (k + 1)) (k := .seq) (p := .nm 2) (b := [.set 1 (.call 45 [.var 1, .var 2])]) (ws := [.d (.tuple (xs.map PyData.int))]) (xs := xs.map PyData.int) (ρ := [some (.d (.tuple (xs.map PyData.int))), some (.d (.int 0)), none])
    (fun ys ρ => ∃ (l : Option W) (g : Nat) (zs : List Int), ys = zs.map PyData.int ∧ zs.foldl (fun g x => Nat.gcd g x.natAbs) g = gcdL xs ∧ (∀ z ∈ zs, z ∈ xs) ∧ ρ = [some (.d (.tuple (xs.map PyData.int))), some (.d (.int g)), l]) (fun _ => rfl) (by simp; show xs.length ≤ 100000; omega) ⟨none, 0, xs, rfl, rfl, fun _ h => h, rfl⟩ (by
      rintro x ys ρ ⟨l, g, zs, e1, e2, hz, rfl⟩
      cases zs with
      | nil => cases e1
      | cons z zs =>
        cases e1
        have := hb z (hz z List.mem_cons_self)
        refine ⟨_, _, by rw [asg_nm], by simp [l_common k _ _ hw]; rfl, ⟨_, Nat.gcd g z.natAbs, zs, rfl, e2, fun y hy => hz y (List.mem_cons_of_mem _ hy), rfl⟩⟩)
  have e1 : zs = [] := by simpa using e1.symm
  subst e1
  have e2 : g = gcdL xs := e2
  subst e2
  have hg0 : ((gcdL xs : Nat) : Int) ≠ 0 := by omega
  have hgb : Bd ((gcdL xs : Nat) : Int) w := by
    cases xs with
    | nil => exact absurd hg (by simp [gcdL])
    | cons x xs' =>
      -- some number is not null
      by_cases hx : ∃ y ∈ x :: xs', y ≠ 0
      · obtain ⟨y, hy, hy0⟩ := hx
        have hd := gcdL_dvd hy
        have hle : ((gcdL (x :: xs') : Nat) : Int).natAbs ≤ y.natAbs := Nat.le_of_dvd (by omega) (Int.natAbs_dvd_natAbs.mpr hd)
        exact ⟨Nat.lt_of_le_of_lt hle (hb y hy).h⟩
      · have hz : ∀ y ∈ x :: xs', y = 0 := fun y hy => by
          by_cases q : y = 0
          · exact q
          · exact absurd ⟨y, hy, q⟩ hx
        have : ∀ (l : List Int), (∀ y ∈ l, y = 0) → l.foldl (fun g x => Nat.gcd g x.natAbs) 0 = 0 := by
          intro l
          induction l with
          | nil => intro _; rfl
          | cons a l ih =>
            intro h
            rw [List.foldl_cons, h a List.mem_cons_self]
            exact ih fun y hy => h y (List.mem_cons_of_mem _ hy)
        exact absurd hg (by unfold gcdL; rw [this _ hz]; decide)
  have hc := cm_tup (Γ := sm (k + 1)) (p := .nm 2) (e := .bin .fdiv (.var 2) (.var 1)) (ρ0 := [some (.d (.tuple (xs.map PyData.int))), some (.d (.int (gcdL xs))), none]) (fun d => match d with
      | .int i => .int (i / (gcdL xs : Int))
      | _ => .none) (xs := xs.map PyData.int) (by simp; show xs.length ≤ 100000; omega) (by
    intro x hx
    obtain ⟨i, hi, rfl⟩ := List.mem_map.mp hx
    refine ⟨_, by rw [asg_nm], ?_⟩
    have : o2 .fdiv (.int i) (.int (gcdL xs : Int)) = some (.int (i / (gcdL xs : Int))) := by
      rw [o2_fdiv_ hg0 (w := w) (by omega), Int.fdiv_eq_ediv_of_nonneg _ (by omega)]
    simp [this])
  simp [ex_fors, hr, ev_cmpr, wipeE, hc, redL]
  rfl
end
section
@[simp] theorem wp_re_iff {α : Type} {x : α} {S : Sto} {Q : α → Sto → Prop} : wp (re x) S Q ↔ Q x S := ⟨fun ⟨_, _, h, q⟩ => by cases h; exact q, wp_re⟩
@[simp] theorem wp_bnd_iff {α β : Type} {m : Mo α} {f : α → Mo β} {S : Sto} {Q : β → Sto → Prop} : wp (bnd m f) S Q ↔ wp m S fun a S' => wp (f a) S' Q := by
  refine ⟨fun ⟨b, S2, h, q⟩ => ?_, wp_bnd⟩
  rcases bnd_inv h with ⟨k, a, S1, _, e⟩ | ⟨a, S1, e, h1⟩
  · cases e
  · exact ⟨a, S1, e, b, S2, h1, q⟩
@[simp] theorem wp_ite_iff {α : Type} {c : Prop} [Decidable c] {m m' : Mo α} {S : Sto} {Q : α → Sto → Prop} : wp (if c then m else m') S Q ↔ (if c then wp m S Q else wp m' S Q) := by
  split <;> rfl
theorem ws_take {N M : Nat} {S S' T L : Sto} (h0 : WS N S T) (h : WS M S' (T ++ L)) : WS M (S'.take S.length) T := by
  obtain ⟨r, c, t, rfl, _⟩ := h0
  obtain ⟨r', c', t', rfl, h⟩ := h
  refine ⟨r', c', t', ?_, h⟩
  simp
theorem wp_finD {m : Mo Fl} {S T : Sto} {N M : Nat} {P : PyData → Prop} (h0 : WS N S T) (h : wp m S fun f S' => ∃ d L, f = .rt (.d d) ∧ WS M S' (T ++ L) ∧ P d) : wp (finM m) S fun w S' => ∃ d, w = .d d ∧ P d ∧ WS M S' T := by
  refine wp_fin (wp_mono h fun f S' ⟨d, L, e, hs, hp⟩ => ?_)
  subst e
  exact ⟨d, rfl, hp, ws_take h0 hs⟩
variable {N : Nat} {S T : Sto}
theorem ws_nil {M : Nat} {S' : Sto} (h : WS M S' T) : WS M S' (T ++ []) := by rw [List.append_nil]; exact h
theorem atI_get {xs : List PyData} {v : Int} (h0 : 0 ≤ v) (h1 : v < xs.length) : ∃ x ∈ xs, atD (.tuple xs) (.int v) = some x := by
  have hl : v.toNat < xs.length := by omega
  refine ⟨xs[v.toNat], List.getElem_mem hl, ?_⟩
  show atI xs v = _
  unfold atI ixN
  rw [if_pos h0, if_pos h1]
  show xs[v.toNat]? = _
  rw [List.getElem?_eq_getElem hl]
theorem l_pick (k : Nat) {xs : List PyData} (h1 : 0 < xs.length) (h2 : xs.length < 100) (hN : N ≤ 100000) (h : WS N S T) : wp ((sm (k + 2)).call 43 [.l 0, .d (.tuple xs)]) S fun w S' => ∃ d, w = .d d ∧ d ∈ xs ∧ WS (N + 1) S' T := by
  rw [r__law_pick, c__law_pick]
  refine wp_finD h ?_
  have hb : Bd (xs.length : Int) 8 := ⟨by omega⟩
  simp
  refine wp_mono (e_draw k (n := (xs.length : Int)) (by decide) (by omega) hN h) ?_
  rintro _ S1 ⟨v, rfl, h3, h4, h5⟩
  obtain ⟨x, hx, e⟩ := atI_get h3 h4
  simp [e]
  exact ⟨⟨[], ws_nil h5⟩, hx⟩
def Sm' (b : Nat) (d : PyData) : Prop := ∃ i : Int, d = .int i ∧ i.natAbs < 2 ^ b
theorem l_number (k : Nat) (hN : N ≤ 90000) (h : WS N S T) : wp ((sm (k + 3)).call 46 [.l 0]) S fun w S' => ∃ d, w = .d d ∧ Sm' 41 d ∧ WS (N + 4) S' T := by
  rw [r__law_number, c__law_number]
  refine wp_finD h ?_
  simp
  refine wp_mono (l_pick k (by simp) (by simp) (by omega) h) ?_
  rintro _ S1 ⟨d, rfl, hd, h1⟩
  have hd : ∃ i : Int, d = .int i ∧ 0 ≤ i ∧ i ≤ 400 := by
    simp only [List.mem_cons, List.not_mem_nil, or_false] at hd
    rcases hd with rfl | rfl | rfl | rfl | rfl | rfl | rfl | rfl <;> exact ⟨_, rfl, by decide, by decide⟩
  obtain ⟨i, rfl, hi0, hi1⟩ := hd
  have hb : Bd i 9 := ⟨by omega⟩
  by_cases hi : 0 < i
  · simp [hi]
    refine wp_mono (e_draw (k + 1) (n := 2 * i + 1) (u := 12) (hb := ⟨by omega⟩) (by decide) (by omega) (by omega) h1) ?_
    rintro _ S2 ⟨v, rfl, h3, h4, h5⟩
    simp
    exact ⟨⟨[], ws_nil (h5.mono (by omega))⟩, _, rfl, by omega⟩
  · simp [hi]
    refine wp_mono (e_draw (k + 1) (n := 999983) (by decide) (by decide) (by omega) h1) ?_
    rintro _ S2 ⟨v, rfl, h3, h4, h5⟩
    have hv : Bd v 20 := ⟨by omega⟩
    simp
    refine wp_mono (e_draw (k + 1) (n := 999983) (by decide) (by decide) (by omega) h5) ?_
    rintro _ S3 ⟨u, rfl, h6, h7, h8⟩
    have hu : Bd u 20 := ⟨by omega⟩
    simp
    refine wp_mono (e_draw (k + 1) (n := 2) (by decide) (by decide) (by omega) h8) ?_
    rintro _ S4 ⟨z, rfl, h9, h10, h11⟩
    have hz : Bd z 1 := ⟨by omega⟩
    have hbb : Bd (v * 999983 + u) 40 := ⟨by omega⟩
    have hb2 : Bd (1 - 2 * z) 1 := ⟨by omega⟩
    have m1 : o2 .mul (.int (v * 999983 + u)) (.int (1 - 2 * z)) = some (.int ((v * 999983 + u) * (1 - 2 * z))) := o2_mul_ (by decide)
    simp [m1]
    exact ⟨⟨[], ws_nil (h11.mono (by omega))⟩, _, rfl, (bd_mul (h := hbb) (k := hb2)).h⟩
def Vec (d : PyData) : Prop := ∃ x y : Int, d = V2 x y ∧ x.natAbs < 2 ^ 41 ∧ y.natAbs < 2 ^ 41 ∧ (x ≠ 0 ∨ y ≠ 0)
theorem l_vector (k : Nat) (hN : N ≤ 80000) (h : WS N S T) : wp ((sm (k + 4)).call 53 [.l 0]) S fun w S' => ∃ d, w = .d d ∧ Vec d ∧ WS (N + 9) S' T := by
  rw [r__law_vector, c__law_vector]
  refine wp_finD h ?_
  simp
  refine wp_mono (l_number k (by omega) h) ?_
  rintro _ S1 ⟨_, rfl, ⟨x, rfl, hx⟩, h1⟩
  simp
  refine wp_mono (l_number k (by omega) h1) ?_
  rintro _ S2 ⟨_, rfl, ⟨y, rfl, hy⟩, h2⟩
  by_cases h0 : x ≠ 0 ∨ y ≠ 0
  · have : ¬ (x = 0 ∧ y = 0) := by omega
    by_cases hx0 : x = 0
    · have hy0 : y ≠ 0 := by omega
      simp [hx0, hy0]
      exact ⟨⟨[], ws_nil (h2.mono (by omega))⟩, _, _, rfl, by decide, hy, by omega⟩
    · simp [hx0]
      exact ⟨⟨[], ws_nil (h2.mono (by omega))⟩, _, _, rfl, hx, hy, by omega⟩
  · have hx0 : x = 0 := by omega
    have hy0 : y = 0 := by omega
    simp [hx0, hy0]
    refine wp_mono (e_draw (k + 2) (n := 3) (by decide) (by decide) (by omega) h2) ?_
    rintro _ S3 ⟨z, rfl, h9, h10, h11⟩
    simp
    exact ⟨⟨[], ws_nil (h11.mono (by omega))⟩, _, _, rfl, by decide, by omega, by omega⟩
end
section
variable {N : Nat} {S T : Sto} {f : Int}
theorem pos_of {a b : Int} (ha : 0 < a) (h : 0 < a * b) : 0 < b := Int.lt_of_mul_lt_mul_left (a := a) (by rw [Int.mul_zero]; exact h) (by omega)
theorem sqnn (x : Int) : 0 ≤ x * x := by
  rcases Int.le_total 0 x with q | q
  · exact Int.mul_nonneg q q
  · exact Int.mul_nonneg_of_nonpos_of_nonpos q q
theorem sqp {x : Int} (h : x ≠ 0) : 0 < x * x := by
  have := sqnn x
  have : x * x ≠ 0 := fun e => h (by rcases Int.mul_eq_zero.mp e with q | q <;> exact q)
  omega
theorem norm_pos {f x y : Int} (hf : 1 ≤ f) (h : x ≠ 0 ∨ y ≠ 0) : 0 < x * x + f * y * y := by
  have h1 := sqnn x
  have h2 := sqnn y
  have h3 : f * y * y = f * (y * y) := by rw [Int.mul_assoc]
  have h4 : 0 ≤ f * (y * y) := Int.mul_nonneg (by omega) h2
  rcases h with h | h
  · have := sqp h; omega
  · have := Int.mul_pos (by omega : 0 < f) (sqp h); omega
theorem gcdL_zero {xs : List Int} (h : gcdL xs = 0) : ∀ x ∈ xs, x = 0 := fun x hx => by
  have := gcdL_dvd hx
  rw [h] at this
  simpa using this
theorem div_le {x : Int} {g : Nat} : (x / (g : Int)).natAbs ≤ x.natAbs := by
  by_cases h : g = 0
  · subst h; simp
  · have := Int.natAbs_ediv_le_natAbs x (g : Int)
    exact this
theorem l_red3 (k : Nat) {f A B L : Int} {w : Nat} (hA : A.natAbs < 2 ^ w) (hB : B.natAbs < 2 ^ w) (hL : L.natAbs < 2 ^ w) (hw : w ≤ 8990) (hf : 1 ≤ f) (hf3 : f ≤ 3) (hn : L * L < A * A + f * B * B) :
    ∃ a b l : Int, (sm (k + 2)).call 51 [.d (.tuple [.int A, .int B, .int L])] = re (.d (.tuple [.int a, .int b, .int l])) ∧ Ang f a b l ∧ a.natAbs < 2 ^ w ∧ b.natAbs < 2 ^ w ∧ l.natAbs < 2 ^ w := by
  have hg : 0 < gcdL [A, B, L] := by
    rcases Nat.eq_zero_or_pos (gcdL [A, B, L]) with h | h
    · have h1 := gcdL_zero h A (by simp)
      have h2 := gcdL_zero h B (by simp)
      have h3 := gcdL_zero h L (by simp)
      subst h1 h2 h3
      simp at hn
    · exact h
  have h := l_reduced k [A, B, L] (w := w) (by
    intro x hx
    simp only [List.mem_cons, List.not_mem_nil, or_false] at hx
    rcases hx with rfl | rfl | rfl
    · exact ⟨hA⟩
    · exact ⟨hB⟩
    · exact ⟨hL⟩) hw (by simp) hg
  have e := redL_eq hg
  have e1 := redL_one hg
  generalize hgg : gcdL [A, B, L] = g at *
  have hr : redL [A, B, L] = [A / (g : Int), B / (g : Int), L / (g : Int)] := by unfold redL; rw [hgg]; rfl
  rw [hr] at h e e1
  simp only [List.map_cons, List.map_nil, List.cons.injEq, and_true] at h e
  obtain ⟨ea, eb, el⟩ := e
  refine ⟨_, _, _, h, ⟨hf, hf3, e1, ?_⟩, Nat.lt_of_le_of_lt div_le hA, Nat.lt_of_le_of_lt div_le hB, Nat.lt_of_le_of_lt div_le hL⟩
  generalize A / (g : Int) = a at *
  generalize B / (g : Int) = b at *
  generalize L / (g : Int) = l at *
  subst ea eb el
  have hgp : (0 : Int) < (g : Int) * (g : Int) := Int.mul_pos (by omega) (by omega)
  have e2 : (g : Int) * a * ((g : Int) * a) + f * ((g : Int) * b) * ((g : Int) * b) - (g : Int) * l * ((g : Int) * l) = (g : Int) * g * (a * a + f * b * b - l * l) := by grind
  have e3 : 0 < (g : Int) * g * (a * a + f * b * b - l * l) := by omega
  have := pos_of hgp e3
  omega
def Way (f : Int) (d : PyData) : Prop := ∃ x y m : Int, d = V2 x y ∧ x.natAbs < 2 ^ 90 ∧ y.natAbs < 2 ^ 90 ∧ 0 < m ∧ m * m = x * x + f * y * y
theorem l_whole_way (k : Nat) (hf : 1 ≤ f) (hf3 : f ≤ 3) (hN : N ≤ 80000) (h : WS N S T) : wp ((sm (k + 4)).call 57 [.l 0, .d (.int f)]) S fun w S' => ∃ d, w = .d d ∧ Way f d ∧ WS (N + 8) S' T := by
  rw [r__law_whole_way, c__law_whole_way]
  refine wp_finD h ?_
  have hfb : Bd f 2 := ⟨by omega⟩
  simp
  refine wp_mono (l_number k (by omega) h) ?_
  rintro _ S1 ⟨_, rfl, ⟨p, rfl, hp⟩, h1⟩
  simp
  refine wp_mono (l_number k (by omega) h1) ?_
  rintro _ S2 ⟨_, rfl, ⟨q, rfl, hq⟩, h2⟩
  have hbp : Bd p 41 := ⟨hp⟩
  have hbq : Bd q 41 := ⟨hq⟩
  have hb1 : Bd (p * p - f * q * q) 90 := (inferInstance : Bd (p * p - f * q * q) (max (41 + 41) (2 + 41 + 41) + 1)).mono (by decide)
  have hb2 : Bd (2 * p * q) 90 := (inferInstance : Bd (2 * p * q) (2 + 41 + 41)).mono (by decide)
  by_cases h0 : p * p - f * q * q = 0 ∧ 2 * p * q = 0
  · simp [h0.1, h0.2]
    exact ⟨⟨[], ws_nil (h2.mono (by omega))⟩, 1, 0, 1, rfl, by decide, by decide, by decide, by simp⟩
  · have hg : 0 < gcdL [p * p - f * q * q, 2 * p * q] := by
      rcases Nat.eq_zero_or_pos (gcdL [p * p - f * q * q, 2 * p * q]) with e | e
      · exact absurd ⟨gcdL_zero e _ (by simp), gcdL_zero e _ (by simp)⟩ h0
      · exact e
    have hr := l_reduced (k + 1) [p * p - f * q * q, 2 * p * q] (w := 90) (by
      intro x hx
      simp only [List.mem_cons, List.not_mem_nil, or_false] at hx
      rcases hx with rfl | rfl
      · exact hb1
      · exact hb2) (by decide) (by simp) hg
    have e := redL_eq hg
    generalize hgg : gcdL [p * p - f * q * q, 2 * p * q] = g at *
    have hrr : redL [p * p - f * q * q, 2 * p * q] = [(p * p - f * q * q) / (g : Int), (2 * p * q) / (g : Int)] := by unfold redL; rw [hgg]; rfl
    rw [hrr] at hr e
    simp only [List.map_cons, List.map_nil, List.cons.injEq, and_true] at hr e
    have hx : ((p * p - f * q * q) / (g : Int)).natAbs < 2 ^ 90 := Nat.lt_of_le_of_lt div_le hb1.h
    have hy : ((2 * p * q) / (g : Int)).natAbs < 2 ^ 90 := Nat.lt_of_le_of_lt div_le hb2.h
    have fin_ : Way f (V2 ((p * p - f * q * q) / (g : Int)) ((2 * p * q) / (g : Int))) := by
      generalize (p * p - f * q * q) / (g : Int) = x at *
      generalize (2 * p * q) / (g : Int) = y at *
      obtain ⟨ex, ey⟩ := e
      have hM : 0 < p * p + f * q * q := norm_pos hf (by
        by_cases hp0 : p = 0
        · right
          rintro rfl
          subst hp0
          exact h0 ⟨by simp, by simp⟩
        · exact .inl hp0)
      have id1 : (g : Int) * g * (x * x + f * y * y) = (p * p + f * q * q) * (p * p + f * q * q) := by
        have a1 : (g : Int) * g * (x * x + f * y * y) = ((g : Int) * x) * ((g : Int) * x) + f * ((g : Int) * y) * ((g : Int) * y) := by grind
        rw [a1, ← ex, ← ey]
        grind
      have hd : (g : Int) ∣ p * p + f * q * q := by
        have d1 : ((g ^ 2 : Nat)) ∣ (p * p + f * q * q).natAbs ^ 2 := by
          have : ((g : Int) * g) ∣ (p * p + f * q * q) * (p * p + f * q * q) := ⟨_, id1.symm⟩
          have := Int.natAbs_dvd_natAbs.mpr this
          rw [Int.natAbs_mul, Int.natAbs_mul, Int.natAbs_natCast] at this
          rw [Nat.pow_two, Nat.pow_two]
          exact this
        have d2 := (Nat.pow_dvd_pow_iff (by decide)).mp d1
        exact Int.natAbs_dvd_natAbs.mp (by rw [Int.natAbs_natCast]; exact d2)
      obtain ⟨m, hm⟩ := hd
      have hgp : (0 : Int) < (g : Int) := by omega
      refine ⟨x, y, m, rfl, hx, hy, ?_, ?_⟩
      · rw [hm] at hM
        exact pos_of hgp hM
      · rw [hm] at id1
        have e2 : (g : Int) * g * (x * x + f * y * y) = (g : Int) * g * (m * m) := by rw [id1]; grind
        exact (Int.eq_of_mul_eq_mul_left (by have := Int.mul_pos hgp hgp; omega) e2).symm
    by_cases hz : p * p - f * q * q = 0
    · have hz2 : ¬ 2 * p * q = 0 := fun z => h0 ⟨hz, z⟩
      rw [hz] at hr fin_
      simp [hz, hz2, hr]
      exact ⟨⟨[], ws_nil (h2.mono (by omega))⟩, by simpa using fin_⟩
    · simp [hz, hr]
      exact ⟨⟨[], ws_nil (h2.mono (by omega))⟩, fin_⟩
end
section
variable {N : Nat} {S T : Sto} {f : Int}
def GA (f : Int) (d : PyData) : Prop := ∃ a b l : Int, d = A4 f a b l ∧ Ang f a b l ∧ AnB f a b l
theorem ga_of {f a b l : Int} {w : Nat} (h : Ang f a b l) (ha : a.natAbs < 2 ^ w) (hb : b.natAbs < 2 ^ w) (hl : l.natAbs < 2 ^ w) (hw : w ≤ 135) : GA f (A4 f a b l) := by
  have := h.f1; have := h.f3
  exact ⟨a, b, l, rfl, h, ⟨by omega⟩, (⟨ha⟩ : Bd a w).mono hw, (⟨hb⟩ : Bd b w).mono hw, (⟨hl⟩ : Bd l w).mono hw⟩
theorem root_eq {m r : Int} (hm : 0 ≤ m) (hr : 0 ≤ r) (h1 : r * r ≤ m * m) (h2 : m * m < (r + 1) * (r + 1)) : r = m := by
  rcases Int.lt_trichotomy r m with h | h | h
  · have h3 : r + 1 ≤ m := h
    have : (r + 1) * (r + 1) ≤ m * m := Int.mul_le_mul h3 h3 (by omega) (by omega)
    omega
  · exact h
  · have := sq_lt hm h
    omega
theorem sq_bd {m c : Int} (hm : 0 ≤ m) (hc : 0 ≤ c) (h : m * m < c * c) : m < c := by
  by_cases q : m < c
  · exact q
  · have := Int.mul_le_mul (show c ≤ m by omega) (show c ≤ m by omega) hc hm
    omega
theorem nat_le_int {x : Int} {w : Nat} (h : x.natAbs < 2 ^ w) : x < 2 ^ w ∧ -(2 ^ w) < x := by
  have e : ((2 ^ w : Nat) : Int) = 2 ^ w := by simp
  omega
theorem l_angle_at (k : Nat) {x y m v0 v1 : Int} (hf : 1 ≤ f) (hf3 : f ≤ 3) (hx : x.natAbs < 2 ^ 90) (hy : y.natAbs < 2 ^ 90) (hm : 0 < m) (hmm : m * m = x * x + f * y * y) (h0 : v0.natAbs < 2 ^ 41) (h1 : v1.natAbs < 2 ^ 41) :
    ∃ d, (sm (k + 3)).call 56 [.d (.int f), .d (V2 x y), .d (V2 v0 v1)] = re (.d d) ∧ (d = .none ∨ GA f d) := by
  have hfb : Bd f 2 := ⟨by omega⟩
  have hxb : Bd x 90 := ⟨hx⟩
  have hyb : Bd y 90 := ⟨hy⟩
  have h0b : Bd v0 41 := ⟨h0⟩
  have h1b : Bd v1 41 := ⟨h1⟩
  have hnb : Bd (x * x + f * y * y) 184 := (inferInstance : Bd (x * x + f * y * y) (max (90 + 90) (2 + 90 + 90) + 1)).mono (by decide)
  have hmb : m < 2 ^ 92 := by
    refine sq_bd (by omega) (by decide) ?_
    have := (nat_le_int hnb.h).1
    rw [hmm]
    rw [show (2 : Int) ^ 92 * 2 ^ 92 = 2 ^ 184 by decide]
    exact this
  have hmB : Bd m 92 := ⟨by omega⟩
  obtain ⟨r, hr, hr0, _, hr1, hr2⟩ := l_root (k + 1) (x * x + f * y * y) (by decide) (by rw [← hmm]; exact sqnn m)
  rw [← hmm] at hr1 hr2
  obtain rfl := root_eq (by omega) hr0 hr1 hr2
  rw [r__law_angle_at, c__law_angle_at]
  by_cases hrise : x * v1 - y * v0 = 0
  · refine ⟨.none, ?_, .inl rfl⟩
    simp [l_norm, hr, hrise]
  · have key : ∀ s : Int, s = 1 ∨ s = -1 → ∃ d, (sm (k + 2)).call 51 [.d (.tuple [.int (s * r * v0), .int (s * r * v1), .int (s * (x * v0 + f * y * v1))])] = re (.d d) ∧ ∃ a b l, d = .tuple [.int a, .int b, .int l] ∧ GA f (A4 f a b l) := by
      intro s hs
      have hsb : Bd s 1 := ⟨by omega⟩
      have b1 : Bd (s * r * v0) 135 := (inferInstance : Bd (s * r * v0) (1 + 92 + 41)).mono (by decide)
      have b2 : Bd (s * r * v1) 135 := (inferInstance : Bd (s * r * v1) (1 + 92 + 41)).mono (by decide)
      have b3 : Bd (s * (x * v0 + f * y * v1)) 135 := (inferInstance : Bd (s * (x * v0 + f * y * v1)) (1 + (max (90 + 41) (2 + 90 + 41) + 1))).mono (by decide)
      have hs2 : s * s = 1 := by rcases hs with rfl | rfl <;> rfl
      have id1 : s * r * v0 * (s * r * v0) + f * (s * r * v1) * (s * r * v1) - s * (x * v0 + f * y * v1) * (s * (x * v0 + f * y * v1)) = s * s * (f * (x * v1 - y * v0) * (x * v1 - y * v0)) := by
        have e : s * r * v0 * (s * r * v0) + f * (s * r * v1) * (s * r * v1) = s * s * (r * r) * (v0 * v0 + f * v1 * v1) := by grind
        rw [e, hmm]
        grind
      rw [hs2, Int.one_mul] at id1
      have hp : 0 < f * (x * v1 - y * v0) * (x * v1 - y * v0) := by
        rw [Int.mul_assoc]
        exact Int.mul_pos (by omega) (sqp hrise)
      obtain ⟨a, b, l, e1, e2, e3, e4, e5⟩ := l_red3 k b1.h b2.h b3.h (by decide) hf hf3 (by omega)
      exact ⟨_, e1, a, b, l, rfl, ga_of e2 e3 e4 e5 (by decide)⟩
    by_cases hpos : y * v0 < x * v1
    · obtain ⟨d, e1, a, b, l, rfl, hga⟩ := key 1 (.inl rfl)
      refine ⟨A4 f a b l, ?_, .inr hga⟩
      simp only [Int.one_mul] at e1
      simp [l_norm, hr, hrise, hpos, e1]
    · obtain ⟨d, e1, a, b, l, rfl, hga⟩ := key (-1) (.inr rfl)
      refine ⟨A4 f a b l, ?_, .inr hga⟩
      simp only [show ∀ z : Int, -1 * z = -z from fun z => by omega] at e1
      simp [l_norm, hr, hrise, hpos, e1]
@[simp] theorem c2_isntN (d : PyData) : c2 .isnt d .none = some (!isNon d) := by
  cases d <;> rfl
theorem l_angle (k : Nat) (hf : 1 ≤ f) (hf3 : f ≤ 3) (hN : N ≤ 70000) (h : WS N S T) : wp ((sm (k + 5)).call 58 [.l 0, .d (.int f)]) S fun w S' => ∃ d, w = .d d ∧ GA f d ∧ WS (N + 20) S' T := by
  rw [r__law_angle, c__law_angle]
  refine wp_finD h ?_
  have hfb : Bd f 2 := ⟨by omega⟩
  simp
  refine wp_mono (e_draw (k + 3) (n := 6) (by decide) (by decide) (by omega) h) ?_
  rintro _ S1 ⟨v, rfl, hv0, hv1, h1⟩
  simp
  refine wp_mono (l_vector k (by omega) h1) ?_
  rintro _ S2 ⟨_, rfl, ⟨x, y, rfl, hx, hy, hnz⟩, h2⟩
  have hxb : Bd x 41 := ⟨hx⟩
  have hyb : Bd y 41 := ⟨hy⟩
  have hnp := norm_pos hf hnz
  by_cases hs0 : v = 0
  · subst hs0
    have b1 : Bd (0 - f * y) 60 := (inferInstance : Bd (0 - f * y) (max 0 (2 + 41) + 1)).mono (by decide)
    have hn : (0 : Int) * 0 < (0 - f * y) * (0 - f * y) + f * x * x := by
      rcases hnz with hz | hz
      · have := sqnn (0 - f * y)
        have : 0 < f * x * x := by rw [Int.mul_assoc]; exact Int.mul_pos (by omega) (sqp hz)
        omega
      · have hz' : 0 - f * y ≠ 0 := by
          have := Int.mul_ne_zero (show f ≠ 0 by omega) hz
          omega
        have := sqp hz'
        have : 0 ≤ f * x * x := by rw [Int.mul_assoc]; exact Int.mul_nonneg (by omega) (sqnn x)
        omega
    obtain ⟨a, b, l, e1, e2, e3, e4, e5⟩ := l_red3 (k + 2) b1.h (hxb.mono (by decide : 41 ≤ 60)).h (show (0 : Int).natAbs < 2 ^ 60 by decide) (by decide) hf hf3 hn
    simp only [Int.zero_sub] at e1
    simp [e1]
    exact ⟨⟨[], ws_nil (h2.mono (by omega))⟩, ga_of e2 e3 e4 e5 (by decide)⟩
  by_cases hs1 : v = 1
  · subst hs1
    simp
    refine wp_mono (l_whole_way k hf hf3 (by omega) h2) ?_
    rintro _ S3 ⟨_, rfl, ⟨p, q, m, rfl, hp, hq, hm, hmm⟩, h3⟩
    obtain ⟨d, e1, e2⟩ := l_angle_at (k + 1) hf hf3 hp hq hm hmm hx hy
    rcases e2 with rfl | ⟨a, b, l, rfl, hA, hB⟩
    · simp [e1, isNon]
      refine ⟨⟨[], ws_nil (h3.mono (by omega))⟩, ?_⟩
      exact ga_of (w := 2) ⟨hf, hf3, by decide, by omega⟩ (by decide) (by decide) (by decide) (by decide)
    · simp [e1, isNon]
      exact ⟨⟨[], ws_nil (h3.mono (by omega))⟩, a, b, l, rfl, hA, hB⟩
  · have hnb : Bd (x * x + f * y * y - 1) 90 := (inferInstance : Bd (x * x + f * y * y - 1) (max (max (41 + 41) (2 + 41 + 41) + 1) 1 + 1)).mono (by decide)
    obtain ⟨r, hr, hr0, hr3, hr1, hr2⟩ := l_root (k + 3) (x * x + f * y * y - 1) (by decide) (by omega)
    have hrb : Bd r 90 := ⟨by have := hnb.h; omega⟩
    have fin_ : ∀ (lev : Int) (S4 : Sto), -r ≤ lev → lev ≤ r → WS (N + 12) S4 T → wp ((sm (k + 4)).call 51 [.d (.tuple [.int x, .int y, .int lev])]) S4 fun a S' => ∃ p q l, a = .d (.tuple [.int p, .int q, .int l]) ∧ GA f (A4 f p q l) ∧ WS (N + 20) S' T := by
      intro lev S4 hl1 hl2 hs
      have hlb : lev.natAbs < 2 ^ 90 := by have := hrb.h; omega
      have hle : lev * lev ≤ r * r := by
        rcases Int.le_total 0 lev with q | q
        · exact Int.mul_le_mul hl2 hl2 q hr0
        · have := Int.mul_le_mul (show -lev ≤ r by omega) (show -lev ≤ r by omega) (by omega) hr0
          rwa [Int.neg_mul_neg] at this
      obtain ⟨a, b, l, e1, e2, e3, e4, e5⟩ := l_red3 (k + 2) (hxb.mono (by decide : 41 ≤ 90)).h (hyb.mono (by decide : 41 ≤ 90)).h hlb (by decide) hf hf3 (by omega)
      rw [e1]
      exact wp_re ⟨a, b, l, rfl, ga_of e2 e3 e4 e5 (by decide), hs.mono (by omega)⟩
    by_cases hs2 : v = 2
    · subst hs2
      simp [l_norm, hr]
      refine wp_mono (e_draw (k + 3) (n := 2) (by decide) (by decide) (by omega) h2) ?_
      rintro _ S3 ⟨z, rfl, h9, h10, h11⟩
      have hzb : Bd (1 - 2 * z) 1 := ⟨by omega⟩
      have hzb0 : Bd z 1 := ⟨by omega⟩
      have m1 : o2 .mul (.int r) (.int (1 - 2 * z)) = some (.int (r * (1 - 2 * z))) := o2_mul_ (by decide)
      have hz : z = 0 ∨ z = 1 := by omega
      simp [m1]
      refine wp_mono (fin_ (r * (1 - 2 * z)) S3 (by rcases hz with rfl | rfl <;> omega) (by rcases hz with rfl | rfl <;> omega) (h11.mono (by omega))) ?_
      rintro _ S5 ⟨p, q, l, rfl, hga, hs5⟩
      simp
      exact ⟨⟨[], ws_nil hs5⟩, hga⟩
    · simp [l_norm, hr, hs0, hs1, hs2]
      refine wp_mono (e_draw (k + 3) (n := 2 * r + 1) (by decide) (by omega) (by omega) h2) ?_
      rintro _ S3 ⟨z, rfl, h9, h10, h11⟩
      simp
      refine wp_mono (fin_ (z - r) S3 (by omega) (by omega) (h11.mono (by omega))) ?_
      rintro _ S5 ⟨p, q, l, rfl, hga, hs5⟩
      simp
      exact ⟨⟨[], ws_nil hs5⟩, hga⟩
end
section
variable {N : Nat} {S T : Sto} {f : Int}
abbrev vlB : List Sx := [.set 8 (.bin .sub (.call 42 [.var 0, .bin .add (.bin .mul (.cI 2) (.var 6)) (.cI 1)]) (.var 6)), .app 7 (.call 43 [.var 0, .tup [.var 8, .var 8, .var 8, .bin .fdiv (.var 8) (.cI 3), .cI 0, .var 6, .bin .sub (.cI 0) (.var 6), .bin .add (.var 6) (.cI 1), .bin .sub (.bin .sub (.cI 0) (.var 6)) (.cI 1)]])]
abbrev vlR : List Sx := [
  .par [6, 7] [.call 52 [.call 50 [.var 1, .var 5]], .lstL []],
  .fors (.nm 2) .rng1 [.cI 4] [.set 8 (.bin .sub (.call 42 [.var 0, .bin .add (.bin .mul (.cI 2) (.var 6)) (.cI 1)]) (.var 6)), .app 7 (.call 43 [.var 0, .tup [.var 8, .var 8, .var 8, .bin .fdiv (.var 8) (.cI 3), .cI 0, .var 6, .bin .sub (.cI 0) (.var 6), .bin .add (.var 6) (.cI 1), .bin .sub (.bin .sub (.cI 0) (.var 6)) (.cI 1)]])],
  .set 3 (.call 51 [.bin .add (.bin .add (.var 5) (.blt .tuple [.var 7])) (.tup [.bin .add (.cI 1) (.blt .abs [.call 46 [.var 0]])])]),
  .ret (.tup [.var 1, .slc (.var 3) false .cN true (.cI 2), .slc (.var 3) true (.cI 2) true (.cI 6), .idx (.var 3) (.cI 6)])]
def GV (f : Int) (d : PyData) : Prop := ∃ a b sh xh sc xc port : Int, d = Vd f a b sh xh sc xc port ∧ Val f a b sh xh sc xc port ∧ a.natAbs < 2 ^ 96 ∧ b.natAbs < 2 ^ 96 ∧ sh.natAbs < 2 ^ 96 ∧ xh.natAbs < 2 ^ 96 ∧ sc.natAbs < 2 ^ 96 ∧ xc.natAbs < 2 ^ 96
theorem ws_len {N : Nat} {S T : Sto} (h : WS N S T) : S.length = T.length + 1 := by
  obtain ⟨r, c, t, rfl, _⟩ := h
  rfl
theorem ws_new {N : Nat} {S T : Sto} (h : WS N S T) (xs : List PyData) : WS N (S ++ [xs]) (T ++ [xs]) := by
  obtain ⟨r, c, t, rfl, h⟩ := h
  exact ⟨r, c, t, rfl, h⟩
theorem ws_get {N : Nat} {S T : Sto} {xs : List PyData} (h : WS N S (T ++ [xs])) : S[T.length + 1]? = some xs := by
  obtain ⟨r, c, t, rfl, h⟩ := h
  simp
theorem ws_set {N : Nat} {S T : Sto} {xs : List PyData} (h : WS N S (T ++ [xs])) (ys : List PyData) : WS N (S.set (T.length + 1) ys) (T ++ [ys]) := by
  obtain ⟨r, c, t, rfl, h⟩ := h
  refine ⟨r, c, t, ?_, h⟩
  simp
theorem wp_newL {xs : List PyData} {S : Sto} {Q : W → Sto → Prop} (h : Q (.l S.length) (S ++ [xs])) : wp (newL xs) S Q := ⟨_, _, rfl, h⟩
theorem wp_tupL {j : Nat} {xs : List PyData} {S : Sto} {Q : W → Sto → Prop} (e : S[j]? = some xs) (h : Q (.d (.tuple xs)) S) : wp (blW .tuple [.l j]) S Q := by
  refine ⟨.d (.tuple xs), S, ?_, h⟩
  have : asDs [W.l j] S = some (.ok [PyData.list xs] S) := by
    show (bnd (asD (.l j)) fun x => bnd (asDs []) fun xs => re (x :: xs)) S = _
    have e2 : asD (.l j) S = some (.ok (.list xs) S) := by
      show (match S[j]? with
        | some xs => some (Out.ok (PyData.list xs) S)
        | none => none) = _
      rw [e]
    simp only [bnd, e2, asDs, re]
  unfold blW
  simp only [bnd, this]
  rfl
theorem wp_app {Γ : Sm} {ρ : Env'} {i j : Nat} {e : Ex} {S : Sto} {Q : Fl → Sto → Prop} (h0 : ρ[i]? = some (some (.l j))) (h : wp (evE Γ e ρ) S fun w S' => ∃ d xs, w = .d d ∧ S'[j]? = some xs ∧ xs.length < 1000 ∧ Q (.nx ρ) (S'.set j (xs ++ [d]))) : wp (exS Γ (.app i e) ρ) S Q := by
  obtain ⟨w, S', h1, d, xs, rfl, h2, h3, q⟩ := h
  refine ⟨.nx ρ, _, ?_, q⟩
  rw [exS, h0]
  have hl : xs.length < LIM := by show xs.length < 100000; omega
  simp only [lift, bnd, h1, onD, h2, hl, if_true]
theorem ix_sub {a b : Int} (h : b.natAbs ≤ a.natAbs) {w : Nat} (h2 : a.natAbs < 2 ^ w) : b.natAbs < 2 ^ w := Nat.lt_of_le_of_lt h h2
theorem valve_rest (k : Nat) (hf : 1 ≤ f) (hf3 : f ≤ 3) (hN : N ≤ 60000) {x y : Int} (hx : x.natAbs < 2 ^ 92) (hy : y.natAbs < 2 ^ 92) (w4 w9 w10 : Option W) (h : WS N S T) :
    wp (exSs (sm (k + 4)) vlR [some (.l 0), some (.d (.int f)), none, none, w4, some (.d (V2 x y)), none, none, none, w9, w10]) S fun g S' => ∃ d L, g = .rt (.d d) ∧ WS (N + 30) S' (T ++ L) ∧ GV f d := by
  have hfb : Bd f 2 := ⟨by omega⟩
  have hxb : Bd x 92 := ⟨hx⟩
  have hyb : Bd y 92 := ⟨hy⟩
  have hnb : Bd (x * x + f * y * y) 188 := (inferInstance : Bd (x * x + f * y * y) (max (92 + 92) (2 + 92 + 92) + 1)).mono (by decide)
  have hn0 : 0 ≤ x * x + f * y * y := by
    have := sqnn x
    have : 0 ≤ f * y * y := by rw [Int.mul_assoc]; exact Int.mul_nonneg (by omega) (sqnn y)
    omega
  obtain ⟨r, hr, hr0, _, hr1, hr2⟩ := l_root (k + 3) (x * x + f * y * y) (by decide) hn0
  have hrb : r < 2 ^ 94 := by
    refine sq_bd hr0 (by decide) ?_
    have := (nat_le_int hnb.h).1
    rw [show (2 : Int) ^ 94 * 2 ^ 94 = 2 ^ 188 by decide]
    omega
  have hrB : Bd r 94 := ⟨by omega⟩
  simp [l_norm, hr, ex_fors]
  refine wp_newL ?_
  have h1 := ws_new h []
  rw [ws_len h]
  refine wp_for (fun ys ρ S' => ∃ (w2 w8 : Option W) (laps : List Int), ys.length + laps.length = 4 ∧ (∀ z ∈ laps, z.natAbs < 2 ^ 95) ∧ WS (N + 2 * laps.length) S' (T ++ [laps.map PyData.int]) ∧ ρ = [some (.l 0), some (.d (.int f)), w2, none, w4, some (.d (V2 x y)), some (.d (.int r)), some (.l (T.length + 1)), w8, w9, w10]) (xs := rngUp 0 4) (g := []) rfl (by decide) ⟨none, none, [], rfl, by simp, h1, rfl⟩ (fun _ _ _ _ j hj => by cases hj) ?_ ?_
  · rintro ρ' S' ⟨w2, w8, laps, hl, hb, hs, rfl⟩
    have hl4 : laps.length = 4 := by simpa using hl
    match laps, hl4 with
    | [l0, l1, l2, l3], _ =>
      simp
      refine wp_tupL (ws_get hs) ?_
      simp
      refine wp_mono (l_number (k + 1) (by simp at hs ⊢; omega) hs) ?_
      rintro _ S2 ⟨_, rfl, ⟨z, rfl, hz⟩, h2⟩
      have hall : ∀ q ∈ [x, y, l0, l1, l2, l3, 1 + (z.natAbs : Int)], q.natAbs < 2 ^ 96 := by
        intro q hq
        simp only [List.mem_cons, List.not_mem_nil, or_false] at hq
        have b0 := hb l0 (by simp)
        have b1 := hb l1 (by simp)
        have b2 := hb l2 (by simp)
        have b3 := hb l3 (by simp)
        rcases hq with rfl | rfl | rfl | rfl | rfl | rfl | rfl <;> omega
      have hg : 0 < gcdL [x, y, l0, l1, l2, l3, 1 + (z.natAbs : Int)] := by
        rcases Nat.eq_zero_or_pos (gcdL [x, y, l0, l1, l2, l3, 1 + (z.natAbs : Int)]) with e | e
        · have := gcdL_zero e (1 + (z.natAbs : Int)) (by simp)
          omega
        · exact e
      have hrd := l_reduced (k + 2) [x, y, l0, l1, l2, l3, 1 + (z.natAbs : Int)] (w := 96) (fun q hq => ⟨hall q hq⟩) (by decide) (by simp) hg
      have e1 := redL_one hg
      have e0 := redL_eq hg
      generalize hgg : gcdL [x, y, l0, l1, l2, l3, 1 + (z.natAbs : Int)] = g at *
      have hrr : redL [x, y, l0, l1, l2, l3, 1 + (z.natAbs : Int)] = [x / (g : Int), y / (g : Int), l0 / (g : Int), l1 / (g : Int), l2 / (g : Int), l3 / (g : Int), (1 + (z.natAbs : Int)) / (g : Int)] := by unfold redL; rw [hgg]; rfl
      rw [hrr] at hrd e1 e0
      simp only [List.map_cons, List.map_nil, List.cons.injEq, and_true] at hrd e0
      simp [hrd]
      have hp : 0 < (1 + (z.natAbs : Int)) / (g : Int) := by
        refine pos_of (a := (g : Int)) (by omega) ?_
        rw [← e0.2.2.2.2.2.2]
        omega
      refine ⟨⟨_, h2.mono (by simp)⟩, _, _, _, _, _, _, _, rfl, ⟨hf, hf3, hp, e1⟩, Nat.lt_of_le_of_lt div_le (hall x (by simp)), Nat.lt_of_le_of_lt div_le (hall y (by simp)), Nat.lt_of_le_of_lt div_le (hall l0 (by simp)), Nat.lt_of_le_of_lt div_le (hall l1 (by simp)), Nat.lt_of_le_of_lt div_le (hall l2 (by simp)), Nat.lt_of_le_of_lt div_le (hall l3 (by simp))⟩
  · rintro x1 ys ρ' S' ⟨w2, w8, laps, hl, hb, hs, rfl⟩
    simp
    have hll : laps.length ≤ 3 := by simp at hl; omega
    refine wp_mono (e_draw (k + 3) (n := 2 * r + 1) (by decide) (by omega) (by omega) hs) ?_
    rintro _ S2 ⟨v, rfl, hv0, hv1, h2⟩
    have d3 : o2 .fdiv (.int (v - r)) (.int 3) = some (.int ((v - r) / 3)) := by rw [o2_fdiv_ (by decide) (by decide), Int.fdiv_eq_ediv_of_nonneg _ (by decide)]
    simp
    refine wp_app (j := T.length + 1) (by simp) ?_
    simp [d3]
    refine wp_mono (l_pick (k + 2) (by simp) (by simp) (by omega) h2) ?_
    rintro _ S3 ⟨d, rfl, hd, h3⟩
    have hd : ∃ i : Int, d = .int i ∧ i.natAbs < 2 ^ 95 := by
      simp only [List.mem_cons, List.not_mem_nil, or_false] at hd
      rcases hd with rfl | rfl | rfl | rfl | rfl | rfl | rfl | rfl | rfl <;> exact ⟨_, rfl, by omega⟩
    obtain ⟨i, rfl, hi⟩ := hd
    refine ⟨_, rfl, _, ws_get h3, by simp; omega, ?_⟩
    refine ⟨_, _, laps ++ [i], by simp at hl ⊢; omega, ?_, ?_, rfl, rfl⟩
    · intro z hz
      rcases List.mem_append.mp hz with q | q
      · exact hb z q
      · obtain rfl : z = i := by simpa using q
        exact hi
    · have := ws_set h3 (laps.map PyData.int ++ [PyData.int i])
      rw [List.map_append]
      exact this.mono (by simp; omega)
end
section
variable {N : Nat} {S T : Sto} {f a b sh xh sc xc port : Int} {e t : Str} {n m : Int}
theorem wp_of_eq {α : Type} {m : Mo α} {S S' : Sto} {x : α} {Q : α → Sto → Prop} (h : m S = some (.ok x S')) (q : Q x S') : wp m S Q := ⟨x, S', h, q⟩
end
section
variable {N : Nat} {S T : Sto} {f a b sh xh sc xc port : Int} {e t : Str} {n m : Int}
theorem ws_app {N : Nat} {S T : Sto} (h : WS N S T) (K : Sto) : WS N (S ++ K) (T ++ K) := by
  obtain ⟨r, c, t, rfl, h⟩ := h
  exact ⟨r, c, t, rfl, h⟩
def third (d : PyData) : PyData := match d with
  | .tuple [_, _, g] => g
  | _ => .none
theorem cut_mem {xs : List PyData} {lo hi : Option Int} {d : PyData} (h : d ∈ DL.cutD xs lo hi) : d ∈ xs := by
  unfold DL.cutD at h
  exact List.mem_of_mem_drop (List.mem_of_mem_take h)
theorem cut_len {xs : List PyData} {lo hi : Option Int} : (DL.cutD xs lo hi).length ≤ xs.length := by
  unfold DL.cutD
  simp
  omega
end
section
theorem l_rounds (k : Nat) (ns : List PyData) : ∃ m : Int, 2 ≤ m ∧ m ≤ 3 ∧ (sm (k + 1)).call 44 [.d (.list ns)] = re (.d (.int m)) := by
  rw [r__law_rounds, c__law_rounds]
  have h1 : ∀ i j : Int, b1 .max [.int i, .int j] = some (.int (if j > i then j else i)) := fun _ _ => rfl
  have h2 : ∀ i j : Int, b1 .min [.int i, .int j] = some (.int (if j < i then j else i)) := fun _ _ => rfl
  refine ⟨_, ?_, ?_, by simp [h1, h2]; rfl⟩ <;> (repeat' split) <;> omega
end
section
abbrev mixE : Ex := .bin .mod (.blt .int [.bin .add (.bin .add (.bin .mul (.var 2) (.cI 52021)) (.bin .mod (.blt .int [.var 3]) (.cI 2147483587))) (.cI 101)]) (.cI 2147483587)
theorem l_well (k : Nat) (ns : List Int) {sp : Int} (hl : ns.length ≤ 63) (h0 : 0 ≤ sp) (h3 : sp ≤ 3) : wp ((sm (k + 1)).call 41 [.d (.list (ns.map PyData.int)), .d (.int sp)]) [] fun w S' => w = .l 0 ∧ WS 0 S' [] := by
  rw [r__law_well, c__law_well]
  have hcut : slD (.list (ns.map PyData.int)) none (some 63) = some (.list (DL.cutD (ns.map PyData.int) none (some 63))) := rfl
  have hmem : ∀ y ∈ DL.cutD (ns.map PyData.int) none (some 63), ∃ i : Int, y = .int i := fun y hy => by
    obtain ⟨i, _, rfl⟩ := List.mem_map.mp (cut_mem hy)
    exact ⟨i, rfl⟩
  have hlen : (DL.cutD (ns.map PyData.int) none (some 63)).length ≤ 63 := by
    have := cut_len (xs := ns.map PyData.int) (lo := none) (hi := some 63)
    simp at this
    omega
  generalize DL.cutD (ns.map PyData.int) none (some 63) = cs at *
  have hspb : Bd sp 2 := ⟨by omega⟩
  obtain ⟨ρ', ⟨_, mix, w3, hm0, hm1, rfl⟩, hr⟩ := frW_rel (Γ := sm k) (k := .seq) (p := .nm 3) (b := [.set 2 mixE]) (ws := [.d (.list cs)]) (xs := cs) (ρ := [some (.d (.list (ns.map PyData.int))), some (.d (.int sp)), some (.d (.int (70001 + 3001 * sp))), none, none, none])
    (fun ys ρ => (∀ y ∈ ys, ∃ i : Int, y = .int i) ∧ ∃ (mix : Int) (w3 : Option W), 0 ≤ mix ∧ mix < 2147483587 ∧ ρ = [some (.d (.list (ns.map PyData.int))), some (.d (.int sp)), some (.d (.int mix)), w3, none, none]) (fun _ => rfl) (by show cs.length ≤ 100000; omega) ⟨hmem, _, _, by omega, by omega, rfl⟩ (by
      rintro x ys ρ ⟨hy, mix, w3, hm0, hm1, rfl⟩
      obtain ⟨i, rfl⟩ := hy x List.mem_cons_self
      have hmb : Bd mix 31 := ⟨by omega⟩
      have m1 : o2 .mul (.int mix) (.int 52021) = some (.int (mix * 52021)) := o2_mul_ (by decide)
      have e := fm_pos (mix * 52021 + i.fmod 2147483587 + 101) (n := 2147483587) (by decide)
      exact ⟨_, [some (.d (.list (ns.map PyData.int))), some (.d (.int sp)), some (.d (.int ((mix * 52021 + i.fmod 2147483587 + 101).fmod 2147483587))), some (.d (.int i)), none, none], by rw [asg_nm], by simp [m1], ⟨fun y h => hy y (List.mem_cons_of_mem _ h), _, _, e.1, e.2, rfl⟩⟩)
  have p18 : o2 .pow (.int 10) (.int 18) = some (.int (10 ^ 18)) := by
    show (if (0 : Int) ≤ 18 ∧ (18 : Int) ≤ 1000 ∧ (10 : Int).natAbs < 2 ^ 64 then _ else none) = _
    rw [if_pos (by decide)]
    rfl
  have m0 : o2 .mul (.int 3001) (.int sp) = some (.int (3001 * sp)) := o2_mul_ (by decide)
  have hmb : Bd mix 31 := ⟨by omega⟩
  have m2 : o2 .mul (.int mix) (.int 30323) = some (.int (mix * 30323)) := o2_mul_ (by decide)
  have hown : ∃ own : Int, evE (sm k) (.ite (.cmp .lt (.var 1) (.blt .len [.var 0])) (.blt .int [.idx (.var 0) (.var 1)]) (.var 2)) [some (.d (.list (ns.map PyData.int))), some (.d (.int sp)), some (.d (.int mix)), w3, none, none] = re (.d (.int own)) := by
    by_cases hc : sp < (ns.length : Int)
    · have hz : sp.toNat < ns.length := by omega
      have hat : atD (.list (ns.map PyData.int)) (.int sp) = some (.int ns[sp.toNat]) := by
        show atI (ns.map PyData.int) sp = _
        unfold atI ixN
        rw [if_pos h0, if_pos (by simpa using hc)]
        simp [hz]
      exact ⟨_, by simp [hc, hat]; rfl⟩
    · exact ⟨mix, by simp [hc]⟩
  obtain ⟨own, hown⟩ := hown
  have e9 := fm_pos (mix * 30323 + own.fmod 2147483587 * 9001 + 5) (n := 2147483587) (by decide)
  have e8 := fm_pos own (n := 2147483587) (by decide)
  have hob : Bd (own.fmod 2147483587) 31 := ⟨by omega⟩
  have m3 : o2 .mul (.int (own.fmod 2147483587)) (.int 9001) = some (.int (own.fmod 2147483587 * 9001)) := o2_mul_ (by decide)
  refine wp_fin ?_
  have s1 : exS (sm k) (.set 2 (.bin .add (.cI 70001) (.bin .mul (.cI 3001) (.var 1)))) [some (.d (.list (ns.map PyData.int))), some (.d (.int sp)), none, none, none, none] = re (.nx [some (.d (.list (ns.map PyData.int))), some (.d (.int sp)), some (.d (.int (70001 + 3001 * sp))), none, none, none]) := by simp [m0]
  have s2 : exS (sm k) (.fors (.nm 3) .seq [.slc (.var 0) false .cN true (.cI 63)] [.set 2 mixE]) [some (.d (.list (ns.map PyData.int))), some (.d (.int sp)), some (.d (.int (70001 + 3001 * sp))), none, none, none] = re (.nx [some (.d (.list (ns.map PyData.int))), some (.d (.int sp)), some (.d (.int mix)), w3, none, none]) := by
    rw [ex_fors]
    simp [hcut]
    exact hr
  have s3 : ∀ e : Ex, evE (sm k) e [some (.d (.list (ns.map PyData.int))), some (.d (.int sp)), some (.d (.int mix)), w3, none, none] = re (.d (.int own)) → exS (sm k) (.set 4 e) [some (.d (.list (ns.map PyData.int))), some (.d (.int sp)), some (.d (.int mix)), w3, none, none] = re (.nx [some (.d (.list (ns.map PyData.int))), some (.d (.int sp)), some (.d (.int mix)), w3, some (.d (.int own)), none]) := fun e h => by
    rw [ex_set, h]; rfl
  rw [exs_cons, s1, bnd_re_, seqF_nx, exs_cons, s2, bnd_re_, seqF_nx, exs_cons, s3 _ hown, bnd_re_, seqF_nx]
  have hrest : ∃ r : Int, 0 ≤ r ∧ exS (sm k) (.set 5 (.ite (.or [.cmp .lt (.var 4) (.cI 0), .cmp .ge (.var 4) (.bin .pow (.cI 10) (.cI 18))]) (.blt .abs [.var 4]) (.cI 0))) [some (.d (.list (ns.map PyData.int))), some (.d (.int sp)), some (.d (.int mix)), w3, some (.d (.int own)), none] = re (.nx [some (.d (.list (ns.map PyData.int))), some (.d (.int sp)), some (.d (.int mix)), w3, some (.d (.int own)), some (.d (.int r))]) := by
    refine ⟨_, ?_, by simp [p18]; rfl⟩
    split <;> omega
  obtain ⟨r, hr0, s4⟩ := hrest
  rw [exs_cons, s4, bnd_re_, seqF_nx, exs_cons]
  have rl : ∀ e ρ, exS (sm k) (.retL e) ρ = bnd (evE (sm k) e ρ) (fun w => match w with
    | .l j => re (.rl j)
    | _ => no) := fun e ρ => by first | (rw [exS]; done) | (rw [exS]; rfl)
  rw [rl]
  simp [m2, m3]
  refine wp_newL ?_
  simp
  exact ⟨r, _, 0, rfl, hr0, e9.1, e9.2, by decide, by decide⟩
end
end G07

namespace G07
open PySem PySem.Spec PyProof.Rows L2 DL
section
def isB (x : PyData) (a b : Int) : Bool := match x with
  | .int i => decide (a ≤ i) && decide (i ≤ b)
  | _ => false
theorem g_is_between (k : Nat) (x : PyData) (a b : Int) : (sm (k + 2)).call 1 [.d x, .d (.int a), .d (.int b)] = re (.d (.bool (isB x a b))) := by
  cases x with
  | int i => exact e_is_between k i a b
  | _ =>
    rw [r_is_between_values, c_is_between_values]
    simp [e_is_whole, isW, isB]
def areW (x : PyData) (n : Int) : Bool := match x with
  | .tuple xs => decide ((xs.length : Int) = n) && xs.all isW
  | _ => false
def shortD (x : PyData) : Prop := match x with
  | .tuple xs => xs.length ≤ 1000
  | _ => True
theorem g_are_wholes (k : Nat) (x : PyData) (n : Int) (h : shortD x) : (sm (k + 2)).call 2 [.d x, .d (.int n)] = re (.d (.bool (areW x n))) := by
  cases x with
  | tuple xs => exact e_are_wholes k xs n h
  | _ =>
    rw [r_are_wholes, c_are_wholes]
    simp [tyOf, areW]
theorem g_check_form (k : Nat) (x : PyData) : (sm (k + 3)).call 14 [.d x] = if isB x 1 3 = true then re (.d .none) else rx 2 x := by
  rw [r_check_form, c_check_form]
  simp [g_is_between]
  cases isB x 1 3 <;> simp
end
section
theorem nat1 (g : Nat) : (((g : Nat) : Int) = 1) = (g = 1) := propext ⟨fun h => by omega, fun h => by omega⟩
theorem beq_int (p q : Int) : (p == q) = decide (p = q) := by
  by_cases h : p = q <;> simp [h]
theorem g_common (k : Nat) (xs : List Int) (hl : xs.length ≤ 1000) : (sm (k + 1)).call 3 [.d (.tuple (xs.map PyData.int))] = re (.d (.int (gcdL xs))) := e_common k xs hl
def angB (f a b l : Int) : Bool := (decide (1 ≤ f) && decide (f ≤ 3)) && (decide (gcdL [a, b, l] = 1) && decide (l * l < a * a + f * b * b))
theorem g_is_angle4 (k : Nat) (f a b l : Int) {u v1 v2 w : Nat} [Bd f u] [Bd a v1] [Bd b v2] [Bd l w] (h : u + v1 + v2 + w < 10000) :
    (sm (k + 3)).call 11 [.d (A4 f a b l)] = re (.d (.bool (angB f a b l))) := by
  rw [r_is_angle, c_is_angle]
  have h1 := e_are_wholes k [.int f, .int a, .int b, .int l] 4 (by simp)
  have h2 := e_common (k + 1) [a, b, l] (by simp)
  simp only [List.map_cons, List.map_nil] at h2
  simp (disch := omega) [h1, e_is_between, h2, e_norm, angB]
  by_cases c1 : 1 ≤ f <;> by_cases c2 : f ≤ 3 <;> by_cases c3 : gcdL [a, b, l] = 1 <;> simp [c1, c2, c3]
  all_goals omega
theorem g_is_angle_no (k : Nat) (x : PyData) (h : shortD x) (hn : areW x 4 = false) : (sm (k + 3)).call 11 [.d x] = re (.d (.bool false)) := by
  rw [r_is_angle, c_is_angle]
  simp [g_are_wholes, h, hn]
def turnB (p q : Int) : Bool := decide (gcdL [p, q] = 1) && (decide (0 < p) || (decide (p = 0) && decide (q = 1)))
theorem g_is_turn2 (k : Nat) (p q : Int) : (sm (k + 3)).call 12 [.d (V2 p q)] = re (.d (.bool (turnB p q))) := by
  rw [r_is_turn, c_is_turn]
  have h1 := e_are_wholes k [.int p, .int q] 2 (by simp)
  have h2 := e_common (k + 1) [p, q] (by simp)
  simp only [List.map_cons, List.map_nil] at h2
  simp [h1, h2, nat1, beq_int, turnB, c2, eqOk, SeqAt.shaped, PyData.canLay0, PyData.canLayAll0, PyData.depth, PyData.depthAll, PyData.eqv, PyData.eqvAll]
theorem g_is_turn_no (k : Nat) (x : PyData) (h : shortD x) (hn : areW x 2 = false) : (sm (k + 3)).call 12 [.d x] = re (.d (.bool false)) := by
  rw [r_is_turn, c_is_turn]
  simp [g_are_wholes, h, hn]
theorem g_check_turn_yes (k : Nat) (x : PyData) (h : (sm (k + 3)).call 12 [.d x] = re (.d (.bool true))) : (sm (k + 4)).call 16 [.d x] = re (.d .none) := by
  rw [r_check_turn, c_check_turn]
  simp [h]
theorem g_is_way2 (k : Nat) (p q : Int) : (sm (k + 3)).call 13 [.d (V2 p q)] = re (.d (.bool (decide (gcdL [p, q] = 1)))) := by
  rw [r_is_way, c_is_way]
  have h1 := e_are_wholes k [.int p, .int q] 2 (by simp)
  have h2 := e_common (k + 1) [p, q] (by simp)
  simp only [List.map_cons, List.map_nil] at h2
  simp [h1, h2, nat1]
theorem g_is_way_no (k : Nat) (x : PyData) (h : shortD x) (hn : areW x 2 = false) : (sm (k + 3)).call 13 [.d x] = re (.d (.bool false)) := by
  rw [r_is_way, c_is_way]
  simp [g_are_wholes, h, hn]
theorem g_check_way_yes (k : Nat) (x : PyData) (h : (sm (k + 3)).call 13 [.d x] = re (.d (.bool true))) : (sm (k + 4)).call 17 [.d x] = re (.d .none) := by
  rw [r_check_way, c_check_way]
  simp [h]
theorem g_check_form_of (k : Nat) (f a b l g : Int) : (sm (k + 1)).call 18 [.d (A4 f a b l), .d (.int g)] = if f = g then re (.d .none) else rx 6 (A4 f a b l) := by
  rw [r_check_form_of, c_check_form_of]
  by_cases h : f = g <;> simp [h]
theorem gcdL_bd {xs : List Int} {w : Nat} (hb : ∀ x ∈ xs, Bd x w) : Bd ((gcdL xs : Nat) : Int) w := by
  by_cases hx : ∃ y ∈ xs, y ≠ 0
  · obtain ⟨y, hy, hy0⟩ := hx
    have hle : ((gcdL xs : Nat) : Int).natAbs ≤ y.natAbs := Nat.le_of_dvd (by omega) (Int.natAbs_dvd_natAbs.mpr (gcdL_dvd hy))
    exact ⟨Nat.lt_of_le_of_lt hle (hb y hy).h⟩
  · have hz : ∀ (l : List Int), (∀ y ∈ l, y = 0) → l.foldl (fun g x => Nat.gcd g x.natAbs) 0 = 0 := by
      intro l
      induction l with
      | nil => intro _; rfl
      | cons a l ih =>
        intro h
        rw [List.foldl_cons, h a List.mem_cons_self]
        exact ih fun y hy => h y (List.mem_cons_of_mem _ hy)
    have : gcdL xs = 0 := hz xs fun y hy => by
      by_cases q : y = 0
      · exact q
      · exact absurd ⟨y, hy, q⟩ hx
    rw [this]
    exact ⟨Nat.two_pow_pos w⟩
def redP (xs : List Int) : List Int := if gcdL xs = 0 then xs else redL xs
theorem e_reduced (k : Nat) (xs : List Int) {w : Nat} (hb : ∀ x ∈ xs, Bd x w) (hw : w ≤ 8990) (hl : xs.length ≤ 1000) : (sm (k + 2)).call 4 [.d (.tuple (xs.map PyData.int))] = re (.d (.tuple ((redP xs).map PyData.int))) := by
  rw [r_reduced, c_reduced]
  have h1 := e_common k xs hl
  have hgb := gcdL_bd hb
  have hc := cm_tup (Γ := sm (k + 1)) (p := .nm 2) (e := .bin .fdiv (.var 2) (.var 1)) (ρ0 := [some (.d (.tuple (xs.map PyData.int))), some (.d (.int (gcdL xs))), none]) (fun d => match d with
      | .int i => .int (i.fdiv (gcdL xs : Int))
      | _ => .none) (xs := xs.map PyData.int) (by simp; show xs.length ≤ 100000; omega)
  by_cases hg : 1 < gcdL xs
  · have hg1 : (1 : Int) < ((gcdL xs : Nat) : Int) := by omega
    have hc := hc (by
      intro x hx
      obtain ⟨i, hi, rfl⟩ := List.mem_map.mp hx
      refine ⟨_, by rw [asg_nm], ?_⟩
      have : o2 .fdiv (.int i) (.int (gcdL xs : Int)) = some (.int (i.fdiv (gcdL xs : Int))) := o2_fdiv_ (w := w) (by omega) (by omega)
      simp [this])
    have e : ((xs.map PyData.int).map fun d => match d with
      | .int i => PyData.int (i.fdiv (gcdL xs : Int))
      | _ => .none) = (redP xs).map PyData.int := by
      unfold redP redL
      rw [if_neg (by omega), List.map_map, List.map_map]
      refine List.map_congr_left fun x _ => ?_
      show PyData.int (x.fdiv _) = PyData.int (x / _)
      rw [Int.fdiv_eq_ediv_of_nonneg _ (by omega)]
    rw [List.map_map] at e
    simp [h1, hg1, ev_cmpr, wipeE, hc]
    exact congrArg (fun z => re (W.d (PyData.tuple z))) e
  · have hg1 : ¬ (1 : Int) < ((gcdL xs : Nat) : Int) := by omega
    have e : xs.map PyData.int = (redP xs).map PyData.int := by
      unfold redP redL
      by_cases h0 : gcdL xs = 0
      · rw [if_pos h0]
      · rw [if_neg h0, show gcdL xs = 1 by omega]
        simp
    have bt : b1 .tuple [.tuple (xs.map PyData.int)] = some (.tuple (xs.map PyData.int)) := rfl
    simp [h1, hg1, bt]
    exact congrArg (fun z => re (W.d (PyData.tuple z))) e
theorem redP_eq (xs : List Int) : ∃ g : Nat, 0 < g ∧ xs = (redP xs).map fun y => (g : Int) * y := by
  unfold redP
  by_cases h : gcdL xs = 0
  · rw [if_pos h]
    exact ⟨1, by decide, by simp⟩
  · rw [if_neg h]
    exact ⟨gcdL xs, by omega, redL_eq (by omega)⟩
theorem redP_len (xs : List Int) : (redP xs).length = xs.length := by
  unfold redP redL
  split
  · rfl
  · simp
theorem e_reduced3 (k : Nat) (A B C : Int) {w : Nat} (hA : Bd A w) (hB : Bd B w) (hC : Bd C w) (hw : w ≤ 8990) : ∃ (g : Nat) (a b c : Int), 0 < g ∧ A = g * a ∧ B = g * b ∧ C = g * c ∧ redP [A, B, C] = [a, b, c] ∧ Bd a w ∧ Bd b w ∧ Bd c w ∧
    (sm (k + 2)).call 4 [.d (.tuple [.int A, .int B, .int C])] = re (.d (.tuple [.int a, .int b, .int c])) := by
  have h := e_reduced k [A, B, C] (w := w) (by
    intro x hx
    simp only [List.mem_cons, List.not_mem_nil, or_false] at hx
    rcases hx with rfl | rfl | rfl <;> assumption) hw (by simp)
  obtain ⟨g, hg, e⟩ := redP_eq [A, B, C]
  have hl := redP_len [A, B, C]
  generalize redP [A, B, C] = r at *
  match r, hl with
  | [a, b, c], _ =>
    simp only [List.map_cons, List.map_nil, List.cons.injEq, and_true] at h e
    obtain ⟨e1, e2, e3⟩ := e
    have le : ∀ {x y : Int}, x = g * y → y.natAbs ≤ x.natAbs := fun {x y} z => by
      rw [z, Int.natAbs_mul, Int.natAbs_natCast]
      exact Nat.le_mul_of_pos_left _ hg
    exact ⟨g, a, b, c, hg, e1, e2, e3, rfl, ⟨Nat.lt_of_le_of_lt (le e1) hA.h⟩, ⟨Nat.lt_of_le_of_lt (le e2) hB.h⟩, ⟨Nat.lt_of_le_of_lt (le e3) hC.h⟩, h⟩
theorem e_reduced2 (k : Nat) (A B : Int) {w : Nat} (hA : Bd A w) (hB : Bd B w) (hw : w ≤ 8990) : ∃ (g : Nat) (a b : Int), 0 < g ∧ A = g * a ∧ B = g * b ∧ redP [A, B] = [a, b] ∧ Bd a w ∧ Bd b w ∧
    (sm (k + 2)).call 4 [.d (.tuple [.int A, .int B])] = re (.d (.tuple [.int a, .int b])) := by
  have h := e_reduced k [A, B] (w := w) (by
    intro x hx
    simp only [List.mem_cons, List.not_mem_nil, or_false] at hx
    rcases hx with rfl | rfl <;> assumption) hw (by simp)
  obtain ⟨g, hg, e⟩ := redP_eq [A, B]
  have hl := redP_len [A, B]
  generalize redP [A, B] = r at *
  match r, hl with
  | [a, b], _ =>
    simp only [List.map_cons, List.map_nil, List.cons.injEq, and_true] at h e
    obtain ⟨e1, e2⟩ := e
    have le : ∀ {x y : Int}, x = g * y → y.natAbs ≤ x.natAbs := fun {x y} z => by
      rw [z, Int.natAbs_mul, Int.natAbs_natCast]
      exact Nat.le_mul_of_pos_left _ hg
    exact ⟨g, a, b, hg, e1, e2, rfl, ⟨Nat.lt_of_le_of_lt (le e1) hA.h⟩, ⟨Nat.lt_of_le_of_lt (le e2) hB.h⟩, h⟩
end
section
theorem sign_abs (x : Int) : x.sign = 1 ∨ x.sign = 0 ∨ x.sign = -1 := by
  rcases Int.lt_trichotomy x 0 with h | h | h
  · rw [Int.sign_eq_neg_one_of_neg h]; simp
  · rw [h]; simp
  · rw [Int.sign_eq_one_of_pos h]; simp
theorem tq_abs (q d : Int) : tq q d = 1 ∨ tq q d = 0 ∨ tq q d = -1 := by
  unfold tq
  split
  · exact sign_abs q
  · simp
theorem three_abs {x y z : Int} (h1 : x = 1 ∨ x = 0 ∨ x = -1) (h2 : y = 1 ∨ y = 0 ∨ y = -1) (h3 : z = 1 ∨ z = 0 ∨ z = -1) :
    (if (x = 0 ∨ y = 0) ∨ x = y then (if x = 0 then y else x) else x * z) = 1 ∨ (if (x = 0 ∨ y = 0) ∨ x = y then (if x = 0 then y else x) else x * z) = 0 ∨ (if (x = 0 ∨ y = 0) ∨ x = y then (if x = 0 then y else x) else x * z) = -1 := by
  rcases h1 with rfl | rfl | rfl <;> rcases h2 with rfl | rfl | rfl <;> rcases h3 with rfl | rfl | rfl <;> decide
theorem rs_abs (p q d : Int) : rs p q d = 1 ∨ rs p q d = 0 ∨ rs p q d = -1 := three_abs (sign_abs p) (tq_abs q d) (sign_abs _)
instance bd_rs {p q d : Int} : Bd (rs p q d) 1 := ⟨by
  rcases rs_abs p q d with h | h | h <;> rw [h] <;> decide⟩
def dsg (p q s t d o : Int) : Int := if (rs p q d = 0 ∨ (if 0 < o then rs s t d else 0) = 0) ∨ rs p q d = (if 0 < o then rs s t d else 0) then (if rs p q d = 0 then (if 0 < o then rs s t d else 0) else rs p q d)
  else rs p q d * rs (p * p + q * q * d - o * (s * s + t * t * d)) (2 * (p * q - o * s * t)) d
theorem ite_abs {c : Prop} [Decidable c] {y : Int} (h : y = 1 ∨ y = 0 ∨ y = -1) : (if c then y else 0) = 1 ∨ (if c then y else 0) = 0 ∨ (if c then y else 0) = -1 := by
  split
  · exact h
  · simp
theorem dsg_abs (p q s t d o : Int) : dsg p q s t d o = 1 ∨ dsg p q s t d o = 0 ∨ dsg p q s t d o = -1 := three_abs (rs_abs p q d) (ite_abs (rs_abs s t d)) (rs_abs _ _ d)
theorem e_double_sign (k : Nat) (p q s t d o : Int) {w1 w2 w3 w4 w5 w6 : Nat} [Bd p w1] [Bd q w2] [Bd s w3] [Bd t w4] [Bd d w5] [Bd o w6] (h : w1 + w2 + w3 + w4 + w5 + w6 < 100000) :
    (sm (k + 3)).call 7 [.d (V2 p q), .d (V2 s t), .d (.int d), .d (.int o)] = re (.d (.int (dsg p q s t d o))) := by
  rw [r_double_sign, c_double_sign]
  have e1 := e_root_sign k p q d (u := w1) (v := w2) (w := w5) (by omega)
  have e2 := e_root_sign k s t d (u := w3) (v := w4) (w := w5) (by omega)
  have e3 := e_root_sign k (p * p + q * q * d - o * (s * s + t * t * d)) (2 * (p * q - o * s * t)) d (by omega)
  obtain ⟨two, ht⟩ : ∃ two, (if 0 < o then rs s t d else 0) = two := ⟨_, rfl⟩
  have ei : (if 0 < o then re (W.d (PyData.int (rs s t d))) else re (W.d (PyData.int 0))) = re (W.d (PyData.int two)) := by
    rw [← ht]
    split <;> rfl
  simp (disch := omega) only [exs_cons, ex_set, ev_call, evs_cons, evs_nil, ev_idx, ev_var, gt_0, gt_s, bnd_re_, kArgs_, kCons_, kIdx_, ev_cI, ixW_, at_0, at_1, liftW_some, e1, e2, kSet_, List.set_cons_zero, List.set_cons_succ, seqF_nx, ev_ite, ev_cmp, kCmp_, cmW_d, c2_gt_, liftB_some, tst_, kIte_, decide_eq_true_eq, ei]
  simp (disch := omega) [e1, e2]
  by_cases c : (rs p q d = 0 ∨ two = 0) ∨ rs p q d = two
  · have c' : rs p q d = 0 ∨ two = 0 ∨ rs p q d = two := by omega
    have e : dsg p q s t d o = if rs p q d = 0 then two else rs p q d := by
      unfold dsg
      rw [ht, if_pos c]
    rw [if_pos c', e]
  · have c' : ¬ (rs p q d = 0 ∨ two = 0 ∨ rs p q d = two) := by omega
    have e : dsg p q s t d o = rs p q d * rs (p * p + q * q * d - o * (s * s + t * t * d)) (2 * (p * q - o * s * t)) d := by
      unfold dsg
      rw [ht, if_neg c]
    rw [if_neg c', e]
    simp (disch := omega) [e3]
abbrev crs (a b c d : Int) : Int := a * d - b * c
abbrev prd (f a b c d : Int) : Int := a * c + f * b * d
abbrev sqr (f a b l : Int) : Int := f * (a * a + f * b * b - l * l)
def sn (f a b l c d m : Int) : Int := dsg (f * l * m * crs a b c d) (m * prd f a b c d) (-l * prd f a b c d) (crs a b c d) (sqr f a b l) (sqr f c d m)
def cs (f a b l c d m : Int) : Int := dsg (f * l * m * prd f a b c d) (-f * m * crs a b c d) (f * l * crs a b c d) (prd f a b c d) (sqr f a b l) (sqr f c d m)
theorem e_sine (k : Nat) (f a b l c d m : Int) {u v1 v2 v3 w1 w2 w3 : Nat} [Bd f u] [Bd a v1] [Bd b v2] [Bd l v3] [Bd c w1] [Bd d w2] [Bd m w3] (h : u + v1 + v2 + v3 + w1 + w2 + w3 < 9500) (hs : u + v1 + v2 + v3 < 8500) (hs2 : u + w1 + w2 + w3 < 8500) :
    (sm (k + 4)).call 22 [.d (A4 f a b l), .d (A4 f c d m)] = re (.d (.int (sn f a b l c d m))) := by
  rw [r_sine_sign, c_sine_sign]
  have e := e_double_sign k (f * l * m * crs a b c d) (m * prd f a b c d) (-l * prd f a b c d) (crs a b c d) (sqr f a b l) (sqr f c d m) (by omega)
  simp (disch := omega) [e_cross, e_product, e_square_at, e, sn]
theorem e_cosine (k : Nat) (f a b l c d m : Int) {u v1 v2 v3 w1 w2 w3 : Nat} [Bd f u] [Bd a v1] [Bd b v2] [Bd l v3] [Bd c w1] [Bd d w2] [Bd m w3] (h : u + v1 + v2 + v3 + w1 + w2 + w3 < 9500) (hs : u + v1 + v2 + v3 < 8500) (hs2 : u + w1 + w2 + w3 < 8500) :
    (sm (k + 4)).call 23 [.d (A4 f a b l), .d (A4 f c d m)] = re (.d (.int (cs f a b l c d m))) := by
  rw [r_cosine_sign, c_cosine_sign]
  have e := e_double_sign k (f * l * m * prd f a b c d) (-f * m * crs a b c d) (f * l * crs a b c d) (prd f a b c d) (sqr f a b l) (sqr f c d m) (by omega)
  simp (disch := omega) [e_cross, e_product, e_square_at, e, cs]
def one (f a b l c d m : Int) : Bool := decide (sn f a b l c d m = 0) && decide (0 < cs f a b l c d m)
theorem e_are_one (k : Nat) (f a b l c d m : Int) {u v1 v2 v3 w1 w2 w3 : Nat} [Bd f u] [Bd a v1] [Bd b v2] [Bd l v3] [Bd c w1] [Bd d w2] [Bd m w3] (h : u + v1 + v2 + v3 + w1 + w2 + w3 < 9500) (hs : u + v1 + v2 + v3 < 8500) (hs2 : u + w1 + w2 + w3 < 8500) :
    (sm (k + 5)).call 24 [.d (A4 f a b l), .d (A4 f c d m)] = re (.d (.bool (one f a b l c d m))) := by
  rw [r_are_one, c_are_one]
  have e1 := e_sine k f a b l c d m h hs hs2
  have e2 := e_cosine k f a b l c d m h hs hs2
  simp [e1, e2, one]
def qrt (f a b l : Int) : Int := if sg f a b l 0 1 0 = 0 then (if 0 < sg f a b l 1 0 0 then 0 else 2) else if 0 < sg f a b l 0 1 0 then 1 else 3
theorem e_quarter (k : Nat) (f a b l : Int) {u v1 v2 v3 : Nat} [Bd f u] [Bd a v1] [Bd b v2] [Bd l v3] (h : u + v1 + v2 + v3 < 8500) : (sm (k + 5)).call 25 [.d (A4 f a b l)] = re (.d (.int (qrt f a b l))) := by
  rw [r_quarter_of, c_quarter_of]
  have e1 := e_sign_at k f a b l 0 1 0 (u := u) (v1 := v1) (v2 := v2) (w := v3) (by omega)
  have e2 := e_sign_at k f a b l 1 0 0 (u := u) (v1 := v1) (v2 := v2) (w := v3) (by omega)
  simp [e1, e2, qrt]
def bef (f a b l c d m : Int) : Bool := if qrt f a b l = qrt f c d m then decide ((qrt f a b l).fmod 2 = 1) && decide (0 < sn f a b l c d m) else decide (qrt f a b l < qrt f c d m)
theorem e_before (k : Nat) (f a b l c d m : Int) {u v1 v2 v3 w1 w2 w3 : Nat} [Bd f u] [Bd a v1] [Bd b v2] [Bd l v3] [Bd c w1] [Bd d w2] [Bd m w3] (h : u + v1 + v2 + v3 + w1 + w2 + w3 < 9500) (hs : u + v1 + v2 + v3 < 8500) (hs2 : u + w1 + w2 + w3 < 8500) :
    (sm (k + 6)).call 26 [.d (A4 f a b l), .d (A4 f c d m)] = re (.d (.bool (bef f a b l c d m))) := by
  rw [r_comes_before, c_comes_before]
  have e1 := e_sine (k + 1) f a b l c d m h hs hs2
  have e2 := e_quarter k f a b l hs
  have e3 := e_quarter k f c d m hs2
  simp [e1, e2, e3, bef]
  by_cases c1 : qrt f a b l = qrt f c d m <;> simp [c1]
def btw (f a b l c d m x y z : Int) : Bool := if one f a b l c d m = true ∨ one f a b l x y z = true then false else if one f c d m x y z = true then true else
  if bef f c d m x y z = true then bef f c d m a b l && bef f a b l x y z else bef f c d m a b l || bef f a b l x y z
theorem e_lies (k : Nat) (f a b l c d m x y z : Int) {u v1 v2 v3 w1 w2 w3 t1 t2 t3 : Nat} [Bd f u] [Bd a v1] [Bd b v2] [Bd l v3] [Bd c w1] [Bd d w2] [Bd m w3] [Bd x t1] [Bd y t2] [Bd z t3] (hu : u < 10) (h1 : v1 + v2 + v3 < 8400) (h2 : w1 + w2 + w3 < 1000) (h3 : t1 + t2 + t3 < 1000) :
    (sm (k + 7)).call 27 [.d (A4 f a b l), .d (A4 f c d m), .d (A4 f x y z)] = re (.d (.bool (btw f a b l c d m x y z))) := by
  rw [r_lies_between, c_lies_between]
  have e1 := e_are_one (k + 1) f a b l c d m (u := u) (v1 := v1) (v2 := v2) (v3 := v3) (w1 := w1) (w2 := w2) (w3 := w3) (by omega) (by omega) (by omega)
  have e2 := e_are_one (k + 1) f a b l x y z (u := u) (v1 := v1) (v2 := v2) (v3 := v3) (w1 := t1) (w2 := t2) (w3 := t3) (by omega) (by omega) (by omega)
  have e3 := e_are_one (k + 1) f c d m x y z (u := u) (v1 := w1) (v2 := w2) (v3 := w3) (w1 := t1) (w2 := t2) (w3 := t3) (by omega) (by omega) (by omega)
  have e4 := e_before k f c d m a b l (u := u) (v1 := w1) (v2 := w2) (v3 := w3) (w1 := v1) (w2 := v2) (w3 := v3) (by omega) (by omega) (by omega)
  have e5 := e_before k f a b l x y z (u := u) (v1 := v1) (v2 := v2) (v3 := v3) (w1 := t1) (w2 := t2) (w3 := t3) (by omega) (by omega) (by omega)
  have e6 := e_before k f c d m x y z (u := u) (v1 := w1) (v2 := w2) (v3 := w3) (w1 := t1) (w2 := t2) (w3 := t3) (by omega) (by omega) (by omega)
  simp [e1, e2, e3, e4, e5, e6, btw]
  cases one f a b l c d m <;> cases one f a b l x y z <;> cases one f c d m x y z <;> cases bef f c d m x y z <;> cases bef f c d m a b l <;> cases bef f a b l x y z <;> simp
end
section
variable {u v1 v2 v3 w1 w2 w3 w : Nat}
theorem bdw (x : Int) {v w : Nat} [h : Bd x v] (e : v ≤ w) : Bd x w := h.mono e
theorem bd_nn {r : Int} (h0 : 0 ≤ r) {x : Int} {w : Nat} (hx : Bd x w) (h : r * r ≤ x) : Bd r w := by
  have : r ≤ x := by
    by_cases h1 : r ≤ 1
    · by_cases h2 : r = 0
      · subst h2; omega
      · have : r = 1 := by omega
        subst this; omega
    · have : r * 1 ≤ r * r := Int.mul_le_mul_of_nonneg_left (by omega) h0
      omega
  exact ⟨Nat.lt_of_le_of_lt (by omega) hx.h⟩
theorem bd_pow {n : Nat} : Bd (2 ^ n : Int) (n + 1) := ⟨by
  rw [Int.natAbs_pow, show (2 : Int).natAbs = 2 from rfl, Nat.pow_succ]
  have := Nat.two_pow_pos n
  omega⟩
theorem bd_div {x y : Int} (hx : Bd x w) (hy : 0 < y) : Bd (x.fdiv y) (w + 1) := ⟨by
  have h := hx.h
  rw [Int.fdiv_eq_ediv_of_nonneg _ (by omega), Nat.pow_succ]
  have h1 : (x / y).natAbs ≤ x.natAbs + 1 := by
    rcases Int.le_total 0 x with h0 | h0
    · have : x / y ≤ x := Int.ediv_le_self _ h0
      have : 0 ≤ x / y := Int.ediv_nonneg h0 (by omega)
      omega
    · have h2 : x ≤ x / y := by
        have := Int.le_ediv_of_mul_le hy (a := x) (b := x) (by
          have : x * y ≤ x * 1 := Int.mul_le_mul_of_nonpos_left h0 (by omega)
          omega)
        exact this
      have h3 : x / y ≤ 0 := by
        have := Int.ediv_le_ediv hy h0
        rw [Int.zero_ediv] at this
        exact this
      omega
  omega⟩
structure NearW (f a b l : Int) (n : Nat) (X Y : Int) : Prop where
  ex : ∃ r : Int, 0 ≤ r ∧ r * r ≤ sqr f a b l * 2 ^ (2 * n) ∧ sqr f a b l * 2 ^ (2 * n) < (r + 1) * (r + 1) ∧ X = (f * l * a * 2 ^ n + f * b * r).fdiv (f * (a * a + f * b * b)) ∧ Y = (f * l * b * 2 ^ n - a * r).fdiv (f * (a * a + f * b * b))
theorem e_near_way (k : Nat) (f a b l : Int) (n : Nat) [Bd f u] [Bd a v1] [Bd b v2] [Bd l v3] (h : u + v1 + v2 + v3 < 900) (hn : n ≤ 5000) (hA : Ang f a b l) :
    ∃ X Y : Int, NearW f a b l n X Y ∧ Bd X 20000 ∧ Bd Y 20000 ∧ (sm (k + 4)).call 28 [.d (A4 f a b l), .d (.int n)] = re (.d (V2 X Y)) := by
  rw [r_near_way, c_near_way]
  have hN := ang_n hA
  have hD := ang_d hA
  have hf := hA.f1
  have hS : 0 < f * (a * a + f * b * b) := Int.mul_pos (by omega) hN
  have bp : Bd (2 ^ (2 * n) : Int) (2 * n + 1) := bd_pow
  have bp1 : Bd (2 ^ n : Int) (n + 1) := bd_pow
  have bD : Bd (sqr f a b l) 2500 := bdw (f * (a * a + f * b * b - l * l)) (by omega)
  have bD2 : Bd (sqr f a b l * 2 ^ (2 * n)) (2500 + (2 * n + 1)) := bd_mul
  have hpos : 0 ≤ sqr f a b l * 2 ^ (2 * n) := Int.le_of_lt (Int.mul_pos hD (Int.pow_pos (by decide)))
  obtain ⟨r, i1, i2, i3, i4⟩ := b1_isqrt_ hpos (by have := bD2.log; omega)
  have br : Bd r (2500 + (2 * n + 1)) := bd_nn i2 bD2 i3
  have sh : o2 .shl (.int (f * (a * a + f * b * b - l * l))) (.int (2 * (n : Int))) = some (.int (sqr f a b l * 2 ^ (2 * n))) := by
    have := o2_shl_ (i := sqr f a b l) (n := 2 * n) (w := 2500) (by omega) (by omega)
    rw [show (2 * (n : Int)) = ((2 * n : Nat) : Int) by omega]
    exact this
  have m2 : o2 .mul (.int 2) (.int (n : Int)) = some (.int (2 * (n : Int))) := by
    have : Bd (n : Int) 20 := ⟨by
      rw [Int.natAbs_natCast]
      omega⟩
    exact o2_mul_ (by decide)
  have bA : Bd (f * l * a) 2500 := bdw (f * l * a) (by omega)
  have bB : Bd (f * l * b) 2500 := bdw (f * l * b) (by omega)
  have s1 := o2_shl_ (i := f * l * a) (n := n) (w := 2500) (by omega) (by omega)
  have s2 := o2_shl_ (i := f * l * b) (n := n) (w := 2500) (by omega) (by omega)
  have bS : Bd (f * (a * a + f * b * b)) 2600 := bdw (f * (a * a + f * b * b)) (by omega)
  have d1 : ∀ x : Int, o2 .fdiv (.int x) (.int (f * (a * a + f * b * b))) = some (.int (x.fdiv (f * (a * a + f * b * b)))) := fun x => o2_fdiv_ (w := 2600) (by omega) (by omega)
  have bX : Bd (f * l * a * 2 ^ n + f * b * r) 19999 := bdw (f * l * a * 2 ^ n + f * b * r) (by omega)
  have bY : Bd (f * l * b * 2 ^ n - a * r) 19999 := bdw (f * l * b * 2 ^ n - a * r) (by omega)
  refine ⟨_, _, ⟨r, i2, i3, i4, rfl, rfl⟩, bd_div bX hS, bd_div bY hS, ?_⟩
  have e1 := e_square_at k f a b l (u := u) (v1 := v1) (v2 := v2) (w := v3) (by omega)
  have e2 := e_norm (k + 1) f a b (u := u) (v1 := v1) (v2 := v2) (by omega)
  simp (disch := omega) [e1, e2, m2, sh, i1, s1, s2, d1]
theorem e_place_of (k : Nat) (f x y : Int) [Bd f u] [Bd x v1] [Bd y v2] (h : u + v1 + v2 < 8900) : ∃ (g : Nat) (a b : Int), 0 < g ∧ -f * y = g * a ∧ x = g * b ∧ redP [-f * y, x, 0] = [a, b, 0] ∧ Bd a (u + v1 + v2) ∧ Bd b (u + v1 + v2) ∧ (sm (k + 3)).call 20 [.d (.int f), .d (V2 x y)] = re (.d (A4 f a b 0)) := by
  rw [r_place_of, c_place_of]
  have b1 : Bd (-f * y) (u + v1 + v2) := bdw (-f * y) (by omega)
  have b2 : Bd x (u + v1 + v2) := bdw x (by omega)
  have b3 : Bd 0 (u + v1 + v2) := bdw 0 (by omega)
  obtain ⟨g, a, b, c, hg, e1, e2, e3, er, c1, c2, c3, e⟩ := e_reduced3 k (-f * y) x 0 b1 b2 b3 (by omega)
  have c0 : c = 0 := by
    rcases Int.mul_eq_zero.mp e3.symm with q | q
    · omega
    · exact q
  subst c0
  refine ⟨g, a, b, hg, e1, e2, er, c1, c2, ?_⟩
  have m : o2 .mul (.int (-f)) (.int y) = some (.int (-f * y)) := o2_mul_ (by omega)
  simp [e, m]
end
section
variable {u v1 v2 v3 w1 w2 w3 w : Nat} {f a b l c d m : Int}
theorem sq_le {x y : Int} (hy : 0 ≤ y) (h : x * x ≤ y * y) : -y ≤ x ∧ x ≤ y := by
  constructor
  · apply Int.not_lt.mp
    intro hx
    have := sq_lt (x := y) (y := -x) hy (by omega)
    rw [Int.neg_mul_neg] at this
    omega
  · apply Int.not_lt.mp
    intro hx
    have := sq_lt (x := y) (y := x) hy hx
    omega
theorem fdiv_box {A S P : Int} (hS : 0 < S) (h1 : -(S * P) ≤ A) (h2 : A ≤ S * P) : -P ≤ A.fdiv S ∧ A.fdiv S ≤ P := by
  rw [Int.fdiv_eq_ediv_of_nonneg _ (by omega)]
  constructor
  · exact Int.le_ediv_of_mul_le hS (by
      have : -P * S = -(S * P) := by grind
      omega)
  · have := Int.ediv_le_ediv hS h2
    rw [Int.mul_ediv_cancel_left _ (by omega)] at this
    exact this
theorem near_bd {n : Nat} {X Y : Int} (hA : Ang f a b l) (h : NearW f a b l n X Y) : (-(2 ^ n) ≤ X ∧ X ≤ 2 ^ n) ∧ (-(2 ^ n) ≤ Y ∧ Y ≤ 2 ^ n) := by
  obtain ⟨r, h0, h1, h2, rfl, rfl⟩ := h.ex
  have hN := ang_n hA
  have hf := hA.f1
  have hS : 0 < f * (a * a + f * b * b) := Int.mul_pos (by omega) hN
  have hP : (0 : Int) < 2 ^ n := Int.pow_pos (by decide)
  have e2 : (2 : Int) ^ (2 * n) = 2 ^ n * 2 ^ n := by rw [← Int.pow_add]; congr 1; omega
  rw [e2] at h1
  unfold sqr at h1
  generalize (2 : Int) ^ n = P at *
  have id1 : (f * l * a * P + f * b * r) * (f * l * a * P + f * b * r) + f * ((f * l * b * P - a * r) * (f * l * b * P - a * r)) = (a * a + f * b * b) * (f * f * l * l * P * P + f * (r * r)) := by grind
  have le1 : (a * a + f * b * b) * (f * f * l * l * P * P + f * (r * r)) ≤ (a * a + f * b * b) * (f * f * l * l * P * P + f * (f * (a * a + f * b * b - l * l) * (P * P))) :=
    Int.mul_le_mul_of_nonneg_left (by
      have := Int.mul_le_mul_of_nonneg_left h1 (by omega : 0 ≤ f)
      omega) (by omega)
  have id2 : (a * a + f * b * b) * (f * f * l * l * P * P + f * (f * (a * a + f * b * b - l * l) * (P * P))) = (f * (a * a + f * b * b) * P) * (f * (a * a + f * b * b) * P) := by grind
  have sB : 0 ≤ (f * l * b * P - a * r) * (f * l * b * P - a * r) := sqnn _
  have sA : 0 ≤ (f * l * a * P + f * b * r) * (f * l * a * P + f * b * r) := sqnn _
  have hSP : 0 ≤ f * (a * a + f * b * b) * P := Int.le_of_lt (Int.mul_pos hS hP)
  have fB : (f * l * b * P - a * r) * (f * l * b * P - a * r) ≤ f * ((f * l * b * P - a * r) * (f * l * b * P - a * r)) := by
    have := Int.mul_le_mul_of_nonneg_right (a := 1) (b := f) (by omega) sB
    omega
  refine ⟨?_, ?_⟩
  · obtain ⟨q1, q2⟩ := sq_le hSP (x := f * l * a * P + f * b * r) (by omega)
    exact fdiv_box hS q1 q2
  · obtain ⟨q1, q2⟩ := sq_le hSP (x := f * l * b * P - a * r) (by omega)
    exact fdiv_box hS q1 q2
theorem fdiv_zero {A S : Int} (hS : 0 < S) (h : A.fdiv S = 0) : 0 ≤ A ∧ A < S := by
  rw [Int.fdiv_eq_ediv_of_nonneg _ (by omega)] at h
  have h1 := Int.mul_ediv_add_emod A S
  have h2 := Int.emod_nonneg A (by omega : S ≠ 0)
  have h3 := Int.emod_lt_of_pos A hS
  rw [h] at h1
  omega
theorem near_ne {X Y : Int} (hA : Ang f a b l) (h : NearW f a b l 8 X Y) : ¬ (X = 0 ∧ Y = 0) := by
  obtain ⟨r, h0, h1, h2, rfl, rfl⟩ := h.ex
  rintro ⟨z1, z2⟩
  have hN := ang_n hA
  have hf := hA.f1
  have hf3 := hA.f3
  have hD := ang_d hA
  have hS : 0 < f * (a * a + f * b * b) := Int.mul_pos (by omega) hN
  obtain ⟨a1, a2⟩ := fdiv_zero hS z1
  obtain ⟨b1, b2⟩ := fdiv_zero hS z2
  have e2 : (2 : Int) ^ (2 * 8) = 65536 := by decide
  have e3 : (2 : Int) ^ 8 = 256 := by decide
  rw [e2] at h2
  rw [e3] at a1 a2 b1 b2
  unfold sqr at h2
  -- the root is at least 256
  have r0 : 255 ≤ r := by
    apply Int.not_lt.mp
    intro hr
    have : (r + 1) * (r + 1) ≤ 255 * 255 := Int.mul_le_mul (by omega) (by omega) (by omega) (by omega)
    omega
  have r1 : (r + 1) * (r + 1) ≤ 2 * (r * r) := by
    have : 0 ≤ (r - 3) * r := Int.mul_nonneg (by omega) (by omega)
    grind
  have r2 : f * (a * a + f * b * b - l * l) * 32768 ≤ r * r := by omega
  have id1 : (f * l * a * 256 + f * b * r) * (f * l * a * 256 + f * b * r) + f * ((f * l * b * 256 - a * r) * (f * l * b * 256 - a * r)) = (a * a + f * b * b) * (f * f * l * l * 65536 + f * (r * r)) := by grind
  have ll : 0 ≤ f * f * l * l := by
    have := sqnn (f * l)
    have e : f * l * (f * l) = f * f * l * l := by grind
    omega
  have le1 : (a * a + f * b * b) * (f * f * l * l * 32768 + f * (f * (a * a + f * b * b - l * l) * 32768)) ≤ (a * a + f * b * b) * (f * f * l * l * 65536 + f * (r * r)) :=
    Int.mul_le_mul_of_nonneg_left (by
      have := Int.mul_le_mul_of_nonneg_left r2 (by omega : 0 ≤ f)
      omega) (by omega)
  have id2 : (a * a + f * b * b) * (f * f * l * l * 32768 + f * (f * (a * a + f * b * b - l * l) * 32768)) = (f * (a * a + f * b * b)) * (f * (a * a + f * b * b)) * 32768 := by grind
  generalize f * (a * a + f * b * b) = S at *
  generalize f * l * a * 256 + f * b * r = A at *
  generalize f * l * b * 256 - a * r = B at *
  have sS : 0 < S * S := Int.mul_pos hS hS
  have qA : A * A ≤ S * S := Int.mul_le_mul (by omega) (by omega) a1 (by omega)
  have qB : B * B ≤ S * S := Int.mul_le_mul (by omega) (by omega) b1 (by omega)
  have qf : f * (B * B) ≤ 3 * (S * S) := by
    have h1 := Int.mul_le_mul_of_nonneg_right (a := f) (b := 3) (by omega) (sqnn B)
    omega
  omega
theorem rs_0q {q d : Int} (hd : 0 < d) : rs 0 q d = q.sign := by
  unfold rs tq
  rw [if_pos hd]
  simp
theorem rs_p0 (p d : Int) : rs p 0 d = p.sign := by
  unfold rs tq
  simp
  intro h
  rw [h]
  rfl
theorem dsg_neg (p q s t d o : Int) : dsg (-p) (-q) (-s) (-t) d o = - dsg p q s t d o := by
  unfold dsg
  rw [rs_neg, rs_neg]
  have e1 : -p * -p + -q * -q * d - o * (-s * -s + -t * -t * d) = p * p + q * q * d - o * (s * s + t * t * d) := by grind
  have e2 : 2 * (-p * -q - o * -s * -t) = 2 * (p * q - o * s * t) := by grind
  rw [e1, e2]
  generalize rs (p * p + q * q * d - o * (s * s + t * t * d)) (2 * (p * q - o * s * t)) d = z
  generalize rs p q d = x
  have e3 : (if 0 < o then -rs s t d else 0) = - (if 0 < o then rs s t d else 0) := by split <;> simp
  rw [e3]
  generalize (if 0 < o then rs s t d else 0) = y
  by_cases h : (x = 0 ∨ y = 0) ∨ x = y
  · have h' : (-x = 0 ∨ -y = 0) ∨ -x = -y := by omega
    rw [if_pos h, if_pos h']
    by_cases h0 : x = 0
    · rw [if_pos h0, if_pos (by omega)]
    · rw [if_neg h0, if_neg (by omega)]
  · have h' : ¬ ((-x = 0 ∨ -y = 0) ∨ -x = -y) := by omega
    rw [if_neg h, if_neg h', Int.neg_mul]
theorem sgn_mul {x y : Int} (h : 0 < y) : (x * y).sign = x.sign := by rw [Int.sign_mul, Int.sign_eq_one_of_pos h, Int.mul_one]
theorem sn_self (hA : Ang f a b l) : sn f a b l a b l = 0 := by
  have hN := ang_n hA
  have hD : 0 < sqr f a b l := ang_d hA
  unfold sn crs prd
  have e0 : a * b - b * a = 0 := by grind
  rw [e0]
  generalize a * a + f * b * b = N at *
  unfold dsg
  rw [Int.mul_zero, rs_0q hD, rs_p0, if_pos hD, Int.neg_mul, Int.sign_neg, sgn_mul hN]
  rcases Int.lt_trichotomy l 0 with h | h | h
  · rw [Int.sign_eq_neg_one_of_neg h]
    have e : 0 * 0 + l * N * (l * N) * sqr f a b l - sqr f a b l * (-(l * N) * -(l * N) + 0 * 0 * sqr f a b l) = 0 := by grind
    rw [e]
    simp [rs_p0]
  · subst h
    simp
  · rw [Int.sign_eq_one_of_pos h]
    have e : 0 * 0 + l * N * (l * N) * sqr f a b l - sqr f a b l * (-(l * N) * -(l * N) + 0 * 0 * sqr f a b l) = 0 := by grind
    rw [e]
    simp [rs_p0]
theorem cs_self (hA : Ang f a b l) : 0 < cs f a b l a b l := by
  have hN := ang_n hA
  have hD : 0 < sqr f a b l := ang_d hA
  have hf := hA.f1
  unfold cs crs prd
  have e0 : a * b - b * a = 0 := by grind
  rw [e0]
  generalize a * a + f * b * b = N at *
  unfold dsg
  rw [Int.mul_zero, Int.mul_zero, rs_p0, if_pos hD, rs_0q hD, sgn_mul hN, Int.sign_eq_one_of_pos hN]
  by_cases h : l = 0
  · subst h
    simp
  · have : 0 < f * l * l := by
      rw [Int.mul_assoc]
      exact Int.mul_pos (by omega) (sqp h)
    rw [Int.sign_eq_one_of_pos this]
    simp
theorem one_self (hA : Ang f a b l) : one f a b l a b l = true := by
  unfold one
  rw [sn_self hA]
  have := cs_self hA
  simp [this]
theorem one_opp {x y : Int} (h : one f x y 0 a b l = true) : one f (-x) (-y) 0 a b l = false := by
  unfold one at *
  simp only [Bool.and_eq_true, decide_eq_true_eq] at h
  have e : cs f (-x) (-y) 0 a b l = - cs f x y 0 a b l := by
    unfold cs
    rw [← dsg_neg]
    have e1 : sqr f (-x) (-y) 0 = sqr f x y 0 := by unfold sqr; grind
    have e2 : prd f (-x) (-y) a b = - prd f x y a b := by unfold prd; grind
    have e3 : crs (-x) (-y) a b = - crs x y a b := by unfold crs; grind
    rw [e1, e2, e3]
    congr 1 <;> grind
  rw [e]
  simp
  intro _
  omega
end
end G07

namespace Geo
open Lean.Grind
class OF (K : Type) extends Lean.Grind.Field K, LE K, LT K where
  lo : Std.IsLinearOrder K
  ll : Std.LawfulOrderLT K
  or : Lean.Grind.OrderedRing K
instance ofLo (K : Type) [h : OF K] : Std.IsLinearOrder K := h.lo
instance ofLl (K : Type) [h : OF K] : Std.LawfulOrderLT K := h.ll
instance ofOr (K : Type) [h : OF K] : Lean.Grind.OrderedRing K := h.or
instance ofIC (K : Type) [OF K] : IntCast K := Lean.Grind.Ring.intCast
instance ofNC (K : Type) [OF K] : NatCast K := Lean.Grind.Semiring.natCast
section
variable {K : Type} [OF K] {a b c d x y z : K}
theorem pos_mul (ha : 0 < a) (hb : 0 < b) : 0 < a * b := by
  have := OrderedRing.mul_lt_mul_of_pos_left (R := K) hb ha
  grind
theorem nn_mul (ha : 0 ≤ a) (hb : 0 ≤ b) : 0 ≤ a * b := by
  by_cases h1 : a = 0
  · subst h1; grind
  · by_cases h2 : b = 0
    · subst h2; grind
    · have := pos_mul (a := a) (b := b) (by grind) (by grind)
      grind
theorem nn_sq (a : K) : 0 ≤ a * a := by
  by_cases h : 0 ≤ a
  · exact nn_mul h h
  · have := nn_mul (a := -a) (b := -a) (by grind) (by grind)
    grind
theorem le_of_sq (hb : 0 ≤ b) (h : a * a ≤ b * b) : a ≤ b := by
  by_cases c : a ≤ b
  · exact c
  · have h1 : 0 < a - b := by grind
    have h2 : 0 < a + b := by grind
    have := pos_mul h1 h2
    grind
theorem sq_le (ha : 0 ≤ a) (h : a ≤ b) : a * a ≤ b * b := by
  have h1 := nn_mul (a := b - a) (b := b + a) (by grind) (by grind)
  grind
theorem mul_zero' (h : a * b = 0) : a = 0 ∨ b = 0 := by
  by_cases h1 : a = 0
  · exact .inl h1
  · right
    have := Field.mul_inv_cancel h1
    grind
theorem sq_zero (h : a * a = 0) : a = 0 := by
  rcases mul_zero' h with h | h <;> exact h
theorem one_pos : (0 : K) < 1 := OrderedRing.zero_lt_one
end
end Geo

namespace Geo
open Lean.Grind
structure Ex2 (K : Type) (d : K) where
  p : K
  q : K
class NS {K : Type} [OF K] (d : K) : Prop where
  pos : 0 < d
  ns : ∀ r : K, r * r ≠ d
section
variable {K : Type} [OF K] {d : K}
theorem Ex2.ext' {x y : Ex2 K d} (h : x.p = y.p) (h2 : x.q = y.q) : x = y := by
  cases x; cases y; cases h; cases h2; rfl
namespace Ex2
instance : Add (Ex2 K d) := ⟨fun x y => ⟨x.p + y.p, x.q + y.q⟩⟩
instance : Mul (Ex2 K d) := ⟨fun x y => ⟨x.p * y.p + d * x.q * y.q, x.p * y.q + x.q * y.p⟩⟩
instance : Neg (Ex2 K d) := ⟨fun x => ⟨-x.p, -x.q⟩⟩
instance : Sub (Ex2 K d) := ⟨fun x y => ⟨x.p - y.p, x.q - y.q⟩⟩
instance : NatCast (Ex2 K d) := ⟨fun n => ⟨(n : K), 0⟩⟩
instance : IntCast (Ex2 K d) := ⟨fun n => ⟨(n : K), 0⟩⟩
instance (n : Nat) : OfNat (Ex2 K d) n := ⟨⟨OfNat.ofNat n, 0⟩⟩
instance : SMul Nat (Ex2 K d) := ⟨fun n x => (n : Ex2 K d) * x⟩
instance : SMul Int (Ex2 K d) := ⟨fun n x => (n : Ex2 K d) * x⟩
def npow (x : Ex2 K d) : Nat → Ex2 K d
  | 0 => 1
  | n + 1 => npow x n * x
instance : HPow (Ex2 K d) Nat (Ex2 K d) := ⟨npow⟩
instance : Inv (Ex2 K d) := ⟨fun x => ⟨x.p * (x.p * x.p - d * x.q * x.q)⁻¹, -x.q * (x.p * x.p - d * x.q * x.q)⁻¹⟩⟩
instance : Div (Ex2 K d) := ⟨fun x y => x * y⁻¹⟩
def zpow (x : Ex2 K d) : Int → Ex2 K d
  | .ofNat n => npow x n
  | .negSucc n => (npow x (n + 1))⁻¹
instance : HPow (Ex2 K d) Int (Ex2 K d) := ⟨zpow⟩
@[simp] theorem add_p (x y : Ex2 K d) : (x + y).p = x.p + y.p := rfl
@[simp] theorem add_q (x y : Ex2 K d) : (x + y).q = x.q + y.q := rfl
@[simp] theorem mul_p (x y : Ex2 K d) : (x * y).p = x.p * y.p + d * x.q * y.q := rfl
@[simp] theorem mul_q (x y : Ex2 K d) : (x * y).q = x.p * y.q + x.q * y.p := rfl
@[simp] theorem neg_p (x : Ex2 K d) : (-x).p = -x.p := rfl
@[simp] theorem neg_q (x : Ex2 K d) : (-x).q = -x.q := rfl
@[simp] theorem sub_p (x y : Ex2 K d) : (x - y).p = x.p - y.p := rfl
@[simp] theorem sub_q (x y : Ex2 K d) : (x - y).q = x.q - y.q := rfl
@[simp] theorem ofNat_p (n : Nat) : (OfNat.ofNat n : Ex2 K d).p = OfNat.ofNat n := rfl
@[simp] theorem ofNat_q (n : Nat) : (OfNat.ofNat n : Ex2 K d).q = 0 := rfl
@[simp] theorem zero_p : (0 : Ex2 K d).p = 0 := rfl
@[simp] theorem zero_q : (0 : Ex2 K d).q = 0 := rfl
@[simp] theorem one_p : (1 : Ex2 K d).p = 1 := rfl
@[simp] theorem one_q : (1 : Ex2 K d).q = 0 := rfl
@[simp] theorem nat_p (n : Nat) : (n : Ex2 K d).p = (n : K) := rfl
@[simp] theorem nat_q (n : Nat) : (n : Ex2 K d).q = 0 := rfl
@[simp] theorem int_p (n : Int) : (n : Ex2 K d).p = (n : K) := rfl
@[simp] theorem int_q (n : Int) : (n : Ex2 K d).q = 0 := rfl
@[simp] theorem inv_p (x : Ex2 K d) : (x⁻¹).p = x.p * (x.p * x.p - d * x.q * x.q)⁻¹ := rfl
@[simp] theorem inv_q (x : Ex2 K d) : (x⁻¹).q = -x.q * (x.p * x.p - d * x.q * x.q)⁻¹ := rfl
instance ring : CommRing (Ex2 K d) where
  add_zero x := ext' (by simp; grind) (by simp; grind)
  add_comm x y := ext' (by simp; grind) (by simp; grind)
  add_assoc x y z := ext' (by simp; grind) (by simp; grind)
  mul_assoc x y z := ext' (by simp; grind) (by simp; grind)
  mul_one x := ext' (by simp; grind) (by simp; grind)
  one_mul x := ext' (by simp; grind) (by simp; grind)
  left_distrib x y z := ext' (by simp; grind) (by simp; grind)
  right_distrib x y z := ext' (by simp; grind) (by simp; grind)
  zero_mul x := ext' (by simp; grind) (by simp; grind)
  mul_zero x := ext' (by simp; grind) (by simp; grind)
  mul_comm x y := ext' (by simp; grind) (by simp; grind)
  pow_zero x := rfl
  pow_succ x n := rfl
  ofNat_succ n := ext' (by simp [Semiring.ofNat_succ (α := K) n]) (by simp; grind)
  ofNat_eq_natCast n := ext' (by simp [Semiring.ofNat_eq_natCast (α := K) n]) rfl
  nsmul_eq_natCast_mul n a := rfl
  neg_add_cancel x := ext' (by simp; grind) (by simp; grind)
  sub_eq_add_neg x y := ext' (by simp; grind) (by simp; grind)
  neg_zsmul i a := by
    show ((-i : Int) : Ex2 K d) * a = -((i : Ex2 K d) * a)
    exact ext' (by simp [Ring.intCast_neg]; grind) (by simp [Ring.intCast_neg]; grind)
  zsmul_natCast_eq_nsmul n a := by
    show ((n : Int) : Ex2 K d) * a = (n : Ex2 K d) * a
    have e : (((n : Int)) : K) = (n : K) := Ring.intCast_natCast (α := K) n
    exact ext' (by simp [e]) (by simp [e])
  intCast_ofNat n := ext' (by simp [Ring.intCast_ofNat (α := K) n]) rfl
  intCast_neg i := ext' (by simp [Ring.intCast_neg]) (by simp; grind)
def nn (x : Ex2 K d) : Prop := (0 ≤ x.p ∧ 0 ≤ x.q) ∨ (0 ≤ x.p ∧ x.q < 0 ∧ d * (x.q * x.q) ≤ x.p * x.p) ∨ (x.p < 0 ∧ 0 ≤ x.q ∧ x.p * x.p ≤ d * (x.q * x.q))
instance : LE (Ex2 K d) := ⟨fun x y => nn (y - x)⟩
instance : LT (Ex2 K d) := ⟨fun x y => nn (y - x) ∧ ¬ nn (x - y)⟩
theorem nn_total (x : Ex2 K d) : nn x ∨ nn (-x) := by
  unfold nn
  simp only [neg_p, neg_q]
  have e1 : (-x.p) * (-x.p) = x.p * x.p := by grind
  have e2 : (-x.q) * (-x.q) = x.q * x.q := by grind
  rw [e1, e2]
  generalize d * (x.q * x.q) = u
  generalize x.p * x.p = v
  grind
theorem sq0 [h : NS d] {p q : K} (e : p * p = d * (q * q)) : p = 0 ∧ q = 0 := by
  by_cases hq : q = 0
  · subst hq
    exact ⟨sq_zero (by grind), rfl⟩
  · exfalso
    refine h.ns (p * q⁻¹) ?_
    have := Field.mul_inv_cancel hq
    grind
theorem nn_anti [h : NS d] {x : Ex2 K d} (h1 : nn x) (h2 : nn (-x)) : x = 0 := by
  unfold nn at h1 h2
  simp only [neg_p, neg_q] at h2
  have e1 : (-x.p) * (-x.p) = x.p * x.p := by grind
  have e2 : (-x.q) * (-x.q) = x.q * x.q := by grind
  rw [e1, e2] at h2
  have s0 := nn_sq x.p
  have s1 := nn_mul (Std.le_of_lt h.pos) (nn_sq x.q)
  have key : x.p * x.p = d * (x.q * x.q) → x.p = 0 ∧ x.q = 0 := sq0
  have fin : x.p = 0 ∧ x.q = 0 := by
    generalize hu : d * (x.q * x.q) = u at *
    generalize hv : x.p * x.p = v at *
    by_cases c : v = u
    · exact key c
    · have : x.p = 0 → v = 0 := fun h => by rw [← hv, h]; grind
      have : x.q = 0 → u = 0 := fun h => by rw [← hu, h]; grind
      grind
  exact ext' fin.1 fin.2
theorem nn_add [h : NS d] {x y : Ex2 K d} (h1 : nn x) (h2 : nn y) : nn (x + y) := by
  have hd := h.pos
  have hd0 : 0 ≤ d := Std.le_of_lt hd
  -- in the numbers
  have A : ∀ {p q r s : K}, 0 ≤ p → 0 ≤ q → 0 ≤ r → s < 0 → d * (s * s) ≤ r * r → nn (d := d) ⟨p + r, q + s⟩ := by
    intro p q r s a1 a2 a3 a4 a5
    by_cases c : 0 ≤ q + s
    · exact .inl ⟨by show 0 ≤ p + r; grind, c⟩
    · refine .inr (.inl ⟨by show 0 ≤ p + r; grind, by show q + s < 0; grind, ?_⟩)
      show d * ((q + s) * (q + s)) ≤ (p + r) * (p + r)
      have b1 := sq_le (a := r) (b := p + r) a3 (by grind)
      have b2 := sq_le (a := -(q + s)) (b := -s) (by grind) (by grind)
      have b3 := nn_mul hd0 (b := (-s) * (-s) - (-(q + s)) * (-(q + s))) (by grind)
      grind
  have B : ∀ {p q r s : K}, 0 ≤ p → 0 ≤ q → r < 0 → 0 ≤ s → r * r ≤ d * (s * s) → nn (d := d) ⟨p + r, q + s⟩ := by
    intro p q r s a1 a2 a3 a4 a5
    by_cases c : 0 ≤ p + r
    · exact .inl ⟨c, by show 0 ≤ q + s; grind⟩
    · refine .inr (.inr ⟨by show p + r < 0; grind, by show 0 ≤ q + s; grind, ?_⟩)
      show (p + r) * (p + r) ≤ d * ((q + s) * (q + s))
      have b1 := sq_le (a := -(p + r)) (b := -r) (by grind) (by grind)
      have b2 := sq_le (a := s) (b := q + s) a4 (by grind)
      have b3 := nn_mul hd0 (b := (q + s) * (q + s) - s * s) (by grind)
      grind
  have C : ∀ {p q r s : K}, 0 ≤ p → q < 0 → d * (q * q) ≤ p * p → 0 ≤ r → s < 0 → d * (s * s) ≤ r * r → nn (d := d) ⟨p + r, q + s⟩ := by
    intro p q r s a1 a2 a3 a4 a5 a6
    refine .inr (.inl ⟨by show 0 ≤ p + r; grind, by show q + s < 0; grind, ?_⟩)
    show d * ((q + s) * (q + s)) ≤ (p + r) * (p + r)
    have b1 : d * (q * s) ≤ p * r := by
      refine le_of_sq (nn_mul a1 a4) ?_
      have c1 := nn_mul (a := p * p - d * (q * q)) (b := r * r) (by grind) (nn_sq r)
      have c2 := nn_mul (a := d * (q * q)) (b := r * r - d * (s * s)) (nn_mul hd0 (nn_sq q)) (by grind)
      grind
    grind
  have D : ∀ {p q r s : K}, 0 ≤ p → q < 0 → d * (q * q) ≤ p * p → r < 0 → 0 ≤ s → r * r ≤ d * (s * s) → nn (d := d) ⟨p + r, q + s⟩ := by
    intro p q r s a1 a2 a3 a4 a5 a6
    by_cases e1 : 0 ≤ p + r
    · by_cases e2 : 0 ≤ q + s
      · exact .inl ⟨e1, e2⟩
      · refine .inr (.inl ⟨e1, by show q + s < 0; grind, ?_⟩)
        show d * ((q + s) * (q + s)) ≤ (p + r) * (p + r)
        by_cases e3 : d * ((q + s) * (q + s)) ≤ (p + r) * (p + r)
        · exact e3
        · exfalso
          have f1 : (p + r) * (-r) ≤ d * (-(q + s) * s) := by
            refine le_of_sq (nn_mul hd0 (nn_mul (by grind) a5)) ?_
            have c1 := nn_mul (a := d * ((q + s) * (q + s)) - (p + r) * (p + r)) (b := r * r) (by grind) (nn_sq r)
            have c2 := nn_mul (a := d * ((q + s) * (q + s))) (b := d * (s * s) - r * r) (nn_mul hd0 (nn_sq _)) (by grind)
            grind
          grind
    · by_cases e2 : 0 ≤ q + s
      · refine .inr (.inr ⟨by show p + r < 0; grind, e2, ?_⟩)
        show (p + r) * (p + r) ≤ d * ((q + s) * (q + s))
        by_cases e3 : (p + r) * (p + r) ≤ d * ((q + s) * (q + s))
        · exact e3
        · exfalso
          have f1 : d * ((q + s) * (-q)) ≤ -(p + r) * p := by
            refine le_of_sq (nn_mul (by grind) a1) ?_
            have c1 := nn_mul (a := (p + r) * (p + r) - d * ((q + s) * (q + s))) (b := d * (q * q)) (by grind) (nn_mul hd0 (nn_sq q))
            have c2 := nn_mul (a := (p + r) * (p + r)) (b := p * p - d * (q * q)) (nn_sq _) (by grind)
            grind
          grind
      · exfalso
        -- p < -r, s < -q
        have f1 := sq_le (a := p) (b := -r) a1 (by grind)
        have f2 := sq_le (a := s) (b := -q) a5 (by grind)
        have f3 := pos_mul (a := -r - p) (b := -r + p) (by grind) (by grind)
        have f4 := nn_mul hd0 (b := q * q - s * s) (by grind)
        grind
  rcases x with ⟨p, q⟩
  rcases y with ⟨r, s⟩
  rcases h1 with ⟨a1, a2⟩ | ⟨a1, a2, a3⟩ | ⟨a1, a2, a3⟩ <;> rcases h2 with ⟨b1, b2⟩ | ⟨b1, b2, b3⟩ | ⟨b1, b2, b3⟩
  · exact .inl ⟨by show 0 ≤ p + r; simp only at *; grind, by show 0 ≤ q + s; simp only at *; grind⟩
  · exact A a1 a2 b1 b2 b3
  · exact B a1 a2 b1 b2 b3
  · have := A (p := r) (q := s) (r := p) (s := q) b1 b2 a1 a2 a3
    rw [show r + p = p + r by grind, show s + q = q + s by grind] at this
    exact this
  · exact C a1 a2 a3 b1 b2 b3
  · exact D a1 a2 a3 b1 b2 b3
  · have := B (p := r) (q := s) (r := p) (s := q) b1 b2 a1 a2 a3
    rw [show r + p = p + r by grind, show s + q = q + s by grind] at this
    exact this
  · have := D (p := r) (q := s) (r := p) (s := q) b1 b2 b3 a1 a2 a3
    rw [show r + p = p + r by grind, show s + q = q + s by grind] at this
    exact this
  · refine .inr (.inr ⟨by show p + r < 0; simp only at *; grind, by show 0 ≤ q + s; simp only at *; grind, ?_⟩)
    show (p + r) * (p + r) ≤ d * ((q + s) * (q + s))
    simp only at *
    have b4 : p * r ≤ d * (q * s) := by
      refine le_of_sq (nn_mul hd0 (nn_mul a2 b2)) ?_
      have c1 := nn_mul (a := d * (q * q) - p * p) (b := r * r) (by grind) (nn_sq r)
      have c2 := nn_mul (a := d * (q * q)) (b := d * (s * s) - r * r) (nn_mul hd0 (nn_sq q)) (by grind)
      grind
    grind
end Ex2
end
end Geo

namespace Geo
open Lean.Grind
section
variable {K : Type} [OF K] {d : K}
namespace Ex2
theorem mk1 {u v : K} (h : 0 ≤ u) (n : d * (v * v) ≤ u * u) : nn (d := d) ⟨u, v⟩ := by
  by_cases c : 0 ≤ v
  · exact .inl ⟨h, c⟩
  · exact .inr (.inl ⟨h, by show v < 0; grind, n⟩)
theorem mk2 {u v : K} (h : 0 ≤ v) (n : u * u ≤ d * (v * v)) : nn (d := d) ⟨u, v⟩ := by
  by_cases c : 0 ≤ u
  · exact .inl ⟨c, h⟩
  · exact .inr (.inr ⟨by show u < 0; grind, h, n⟩)
theorem nn_mulE [h : NS d] {x y : Ex2 K d} (h1 : nn x) (h2 : nn y) : nn (x * y) := by
  have hd := h.pos
  have hd0 : 0 ≤ d := Std.le_of_lt hd
  have N : ∀ p q r s : K, (p * r + d * q * s) * (p * r + d * q * s) - d * ((p * s + q * r) * (p * s + q * r)) = (p * p - d * (q * q)) * (r * r - d * (s * s)) := by intros; grind
  have A : ∀ {p q r s : K}, 0 ≤ p → 0 ≤ q → 0 ≤ r → s < 0 → d * (s * s) ≤ r * r → nn (d := d) ⟨p * r + d * q * s, p * s + q * r⟩ := by
    intro p q r s a1 a2 a3 a4 a5
    have n := N p q r s
    by_cases c : d * (q * q) ≤ p * p
    · refine mk1 ?_ ?_
      · have : d * (q * (-s)) ≤ p * r := by
          refine le_of_sq (nn_mul a1 a3) ?_
          have c1 := nn_mul (a := p * p - d * (q * q)) (b := r * r) (by grind) (nn_sq r)
          have c2 := nn_mul (a := d * (q * q)) (b := r * r - d * (s * s)) (nn_mul hd0 (nn_sq q)) (by grind)
          grind
        grind
      · have := nn_mul (a := p * p - d * (q * q)) (b := r * r - d * (s * s)) (by grind) (by grind)
        grind
    · refine mk2 ?_ ?_
      · have : p * (-s) ≤ q * r := by
          refine le_of_sq (nn_mul a2 a3) ?_
          have c1 := nn_mul (a := d * (q * q) - p * p) (b := s * s) (by grind) (nn_sq s)
          have c2 := nn_mul (a := q * q) (b := r * r - d * (s * s)) (nn_sq q) (by grind)
          grind
        grind
      · have := nn_mul (a := d * (q * q) - p * p) (b := r * r - d * (s * s)) (by grind) (by grind)
        grind
  have B : ∀ {p q r s : K}, 0 ≤ p → 0 ≤ q → r < 0 → 0 ≤ s → r * r ≤ d * (s * s) → nn (d := d) ⟨p * r + d * q * s, p * s + q * r⟩ := by
    intro p q r s a1 a2 a3 a4 a5
    have n := N p q r s
    by_cases c : d * (q * q) ≤ p * p
    · refine mk2 ?_ ?_
      · have : q * (-r) ≤ p * s := by
          refine le_of_sq (nn_mul a1 a4) ?_
          have c1 := nn_mul (a := p * p - d * (q * q)) (b := s * s) (by grind) (nn_sq s)
          have c2 := nn_mul (a := q * q) (b := d * (s * s) - r * r) (nn_sq q) (by grind)
          grind
        grind
      · have := nn_mul (a := p * p - d * (q * q)) (b := d * (s * s) - r * r) (by grind) (by grind)
        grind
    · refine mk1 ?_ ?_
      · have : p * (-r) ≤ d * (q * s) := by
          refine le_of_sq (nn_mul hd0 (nn_mul a2 a4)) ?_
          have c1 := nn_mul (a := d * (q * q) - p * p) (b := r * r) (by grind) (nn_sq r)
          have c2 := nn_mul (a := d * (q * q)) (b := d * (s * s) - r * r) (nn_mul hd0 (nn_sq q)) (by grind)
          grind
        grind
      · have := nn_mul (a := d * (q * q) - p * p) (b := d * (s * s) - r * r) (by grind) (by grind)
        grind
  have D : ∀ {p q r s : K}, 0 ≤ p → q < 0 → d * (q * q) ≤ p * p → r < 0 → 0 ≤ s → r * r ≤ d * (s * s) → nn (d := d) ⟨p * r + d * q * s, p * s + q * r⟩ := by
    intro p q r s a1 a2 a3 a4 a5 a6
    have n := N p q r s
    refine mk2 ?_ ?_
    · have := nn_mul a1 a5
      have := nn_mul (a := -q) (b := -r) (by grind) (by grind)
      grind
    · have := nn_mul (a := p * p - d * (q * q)) (b := d * (s * s) - r * r) (by grind) (by grind)
      grind
  have sw : ∀ {p q r s : K}, nn (d := d) ⟨r * p + d * s * q, r * q + s * p⟩ → nn (d := d) ⟨p * r + d * q * s, p * s + q * r⟩ := by
    intro p q r s g
    rw [show r * p + d * s * q = p * r + d * q * s by grind, show r * q + s * p = p * s + q * r by grind] at g
    exact g
  rcases x with ⟨p, q⟩
  rcases y with ⟨r, s⟩
  show nn (d := d) ⟨p * r + d * q * s, p * s + q * r⟩
  rcases h1 with ⟨a1, a2⟩ | ⟨a1, a2, a3⟩ | ⟨a1, a2, a3⟩ <;> rcases h2 with ⟨b1, b2⟩ | ⟨b1, b2, b3⟩ | ⟨b1, b2, b3⟩ <;> simp only at *
  · have := nn_mul a1 b1
    have := nn_mul hd0 (nn_mul a2 b2)
    have := nn_mul a1 b2
    have := nn_mul a2 b1
    exact .inl ⟨by show 0 ≤ p * r + d * q * s; grind, by show 0 ≤ p * s + q * r; grind⟩
  · exact A a1 a2 b1 b2 b3
  · exact B a1 a2 b1 b2 b3
  · exact sw (A b1 b2 a1 a2 a3)
  · have n := N p q r s
    refine mk1 ?_ ?_
    · have := nn_mul a1 b1
      have := nn_mul hd0 (nn_mul (a := -q) (b := -s) (by grind) (by grind))
      grind
    · have := nn_mul (a := p * p - d * (q * q)) (b := r * r - d * (s * s)) (by grind) (by grind)
      grind
  · exact D a1 a2 a3 b1 b2 b3
  · exact sw (B b1 b2 a1 a2 a3)
  · exact sw (D b1 b2 b3 a1 a2 a3)
  · have n := N p q r s
    refine mk1 ?_ ?_
    · have := nn_mul (a := -p) (b := -r) (by grind) (by grind)
      have := nn_mul hd0 (nn_mul a2 b2)
      grind
    · have := nn_mul (a := d * (q * q) - p * p) (b := d * (s * s) - r * r) (by grind) (by grind)
      grind
theorem norm_ne [h : NS d] {x : Ex2 K d} (hx : x ≠ 0) : x.p * x.p - d * x.q * x.q ≠ 0 := by
  intro e
  have := sq0 (d := d) (p := x.p) (q := x.q) (by grind)
  exact hx (ext' this.1 this.2)
theorem inv_inv' [h : NS d] (x : Ex2 K d) : (x⁻¹)⁻¹ = x := by
  by_cases hx : x = 0
  · subst hx
    have z : (0 : K) * 0 - d * 0 * 0 = 0 := by grind
    exact ext' (by simp; grind) (by simp; grind)
  · have n := norm_ne hx
    have e := Field.mul_inv_cancel n
    generalize hn : x.p * x.p - d * x.q * x.q = n0 at *
    have n1 : x.p * n0⁻¹ * (x.p * n0⁻¹) - d * (-x.q * n0⁻¹) * (-x.q * n0⁻¹) = n0⁻¹ := by
      have : x.p * n0⁻¹ * (x.p * n0⁻¹) - d * (-x.q * n0⁻¹) * (-x.q * n0⁻¹) = (x.p * x.p - d * x.q * x.q) * n0⁻¹ * n0⁻¹ := by grind
      rw [this, hn]
      grind
    have i2 : (n0⁻¹)⁻¹ = n0 := Field.inv_inv n0
    refine ext' ?_ ?_
    · simp only [inv_p, inv_q, hn]
      rw [n1, i2]
      grind
    · simp only [inv_p, inv_q, hn]
      rw [n1, i2]
      grind
@[reducible] def field (h : NS d) : Field (Ex2 K d) where
  toCommRing := Ex2.ring
  div_eq_mul_inv _ _ := rfl
  zero_ne_one e := by
    have e : (0 : K) = 1 := congrArg Ex2.p e
    exact Field.zero_ne_one e
  inv_zero := by
    refine ext' ?_ ?_
    · show (0 : K) * _ = 0
      grind
    · show -(0 : K) * _ = 0
      grind
  mul_inv_cancel {a} ha := by
    have n := norm_ne ha
    have e := Field.mul_inv_cancel n
    exact ext' (by simp; grind) (by simp; grind)
  zpow_zero _ := rfl
  zpow_succ _ _ := rfl
  zpow_neg a n := by
    cases n with
    | ofNat n =>
      cases n with
      | zero =>
        show (1 : Ex2 K d) = (1 : Ex2 K d)⁻¹
        have e : (1 : K) * 1 - d * 0 * 0 = 1 := by grind
        have e1 : (1 : K)⁻¹ = 1 := by
          have := Field.mul_inv_cancel (a := (1 : K)) (fun e => Field.zero_ne_one e.symm)
          grind
        refine ext' ?_ ?_
        · show (1 : K) = 1 * (1 * 1 - d * 0 * 0)⁻¹
          rw [e, e1]; grind
        · show (0 : K) = -0 * (1 * 1 - d * 0 * 0)⁻¹
          grind
      | succ n => rfl
    | negSucc n =>
      show npow a (n + 1) = ((npow a (n + 1))⁻¹)⁻¹
      rw [inv_inv']
instance lo [h : NS d] : Std.IsLinearOrder (Ex2 K d) where
  le_refl := fun x => by
    show nn (x - x)
    exact .inl ⟨by simp; grind, by simp; grind⟩
  le_trans := fun x y z a b => by
    have := nn_add b a
    show nn (z - x)
    rw [show z - x = (z - y) + (y - x) from ext' (by simp; grind) (by simp; grind)]
    exact this
  le_antisymm := fun x y a b => by
    have e := nn_anti (x := y - x) a (by
      rw [show -(y - x) = x - y from ext' (by simp; grind) (by simp; grind)]
      exact b)
    have e1 := congrArg Ex2.p e
    have e2 := congrArg Ex2.q e
    exact ext' (by simp at e1; grind) (by simp at e2; grind)
  le_total := fun x y => by
    have := nn_total (y - x)
    rw [show -(y - x) = x - y from ext' (by simp; grind) (by simp; grind)] at this
    exact this
instance ll : Std.LawfulOrderLT (Ex2 K d) := ⟨fun _ _ => Iff.rfl⟩
theorem noz [h : NS d] {x y : Ex2 K d} (e : x * y = 0) : x = 0 ∨ y = 0 := by
  by_cases hx : x = 0
  · exact .inl hx
  · right
    have n := norm_ne hx
    have e1 := congrArg Ex2.p e
    have e2 := congrArg Ex2.q e
    simp at e1 e2
    have f1 : (x.p * x.p - d * x.q * x.q) * y.p = 0 := by grind
    have f2 : (x.p * x.p - d * x.q * x.q) * y.q = 0 := by grind
    exact ext' (by rcases mul_zero' f1 with c | c; exact absurd c n; exact c) (by rcases mul_zero' f2 with c | c; exact absurd c n; exact c)
theorem mul_lt' [h : NS d] {a b c : Ex2 K d} (h1 : a < b) (h2 : (0 : Ex2 K d) < c) : c * a < c * b := by
  have e1 : c * b - c * a = (c - 0) * (b - a) := ext' (by simp; grind) (by simp; grind)
  have e2 : c * a - c * b = -((c - 0) * (b - a)) := ext' (by simp; grind) (by simp; grind)
  have m := nn_mulE h2.1 h1.1
  refine ⟨by rw [e1]; exact m, fun g => ?_⟩
  rw [e2] at g
  rcases noz (nn_anti m g) with z | z
  · apply h2.2
    rw [show (0 : Ex2 K d) - c = -(c - 0) from ext' (by simp; grind) (by simp; grind), z]
    exact .inl ⟨by simp; grind, by simp; grind⟩
  · apply h1.2
    rw [show a - b = -(b - a) from ext' (by simp; grind) (by simp; grind), z]
    exact .inl ⟨by simp; grind, by simp; grind⟩
instance or [h : NS d] : OrderedRing (Ex2 K d) where
  add_le_left_iff := fun {a b} c => by
    show nn (b - a) ↔ nn ((b + c) - (a + c))
    rw [show (b + c) - (a + c) = b - a from ext' (by simp; grind) (by simp; grind)]
  zero_lt_one := by
    constructor
    · exact .inl ⟨by simp; have := one_pos (K := K); grind, by simp; grind⟩
    · intro c
      have := one_pos (K := K)
      rcases c with ⟨c, _⟩ | ⟨c, _⟩ | ⟨_, c, e⟩ <;> simp at * <;> grind
  mul_lt_mul_of_pos_left := fun h1 h2 => mul_lt' h1 h2
  mul_lt_mul_of_pos_right := fun {a b c} h1 h2 => by
    have := mul_lt' h1 h2
    rw [CommSemiring.mul_comm c a, CommSemiring.mul_comm c b] at this
    exact this
instance of (d : K) [h : NS d] : OF (Ex2 K d) where
  toField := field h
  lo := lo
  ll := ll
  or := or
def root : Ex2 K d := ⟨0, 1⟩
def emb (x : K) : Ex2 K d := ⟨x, 0⟩
theorem root_nn : nn (root : Ex2 K d) := .inl ⟨by show (0 : K) ≤ 0; grind, by show (0 : K) ≤ 1; have := one_pos (K := K); grind⟩
end Ex2
theorem exists_field : ∀ ds : List Nat, ∃ (K : Type) (_ : OF K), ∀ n ∈ ds, ∃ r : K, 0 ≤ r ∧ r * r = ((n : Int) : K)
  | [] => ⟨Rat, { lo := inferInstance, ll := inferInstance, or := inferInstance }, fun _ h => by cases h⟩
  | n :: ds => by
    obtain ⟨K, oK, h⟩ := exists_field ds
    have cast_nn : ∀ m : Nat, (0 : K) ≤ ((m : Int) : K) := by
      intro m
      induction m with
      | zero => have : ((((0 : Nat) : Int)) : K) = 0 := by grind
                grind
      | succ m ih =>
        have e : ((((m + 1 : Nat) : Int)) : K) = ((m : Int) : K) + 1 := by grind
        have := one_pos (K := K)
        grind
    by_cases hr : ∃ r : K, r * r = ((n : Int) : K)
    · obtain ⟨r, e⟩ := hr
      refine ⟨K, oK, fun m hm => ?_⟩
      rcases List.mem_cons.1 hm with rfl | hm
      · by_cases c : 0 ≤ r
        · exact ⟨r, c, e⟩
        · exact ⟨-r, by grind, by grind⟩
      · exact h m hm
    · have ns : NS (((n : Int) : K)) := {
        ns := fun r e => hr ⟨r, e⟩
        pos := by
          have := cast_nn n
          by_cases z : (((n : Int)) : K) = 0
          · exact absurd ⟨0, by rw [z]; grind⟩ hr
          · grind }
      refine ⟨Ex2 K (((n : Int)) : K), Ex2.of _, fun m hm => ?_⟩
      have ic : ∀ i : Int, ((i : Ex2 K (((n : Int)) : K))) = ⟨(i : K), 0⟩ := fun _ => rfl
      rcases List.mem_cons.1 hm with rfl | hm
      · refine ⟨Ex2.root, ?_, ?_⟩
        · show Ex2.nn (Ex2.root - 0)
          exact .inl ⟨by show (0 : K) ≤ 0 - 0; grind, by show (0 : K) ≤ 1 - 0; have := one_pos (K := K); grind⟩
        · exact Ex2.ext' (by show (0 : K) * 0 + ((m : Int) : K) * 1 * 1 = ((m : Int) : K); grind) (by show (0 : K) * 1 + 1 * 0 = 0; grind)
      · obtain ⟨r, h1, h2⟩ := h m hm
        refine ⟨⟨r, 0⟩, ?_, ?_⟩
        · show Ex2.nn _
          exact .inl ⟨by show 0 ≤ r - 0; grind, by show (0 : K) ≤ 0 - 0; grind⟩
        · exact Ex2.ext' (by show r * r + ((n : Int) : K) * 0 * 0 = ((m : Int) : K); grind) (by show r * 0 + 0 * r = 0; grind)
end
end Geo

namespace Geo
open Lean.Grind
def tq (q d : Int) : Int := if 0 < d then q.sign else 0
def rs (p q d : Int) : Int := if (p.sign = 0 ∨ tq q d = 0) ∨ p.sign = tq q d then (if p.sign = 0 then tq q d else p.sign) else p.sign * (p * p - q * q * d).sign
def dsg (p q s t d o : Int) : Int := if (rs p q d = 0 ∨ (if 0 < o then rs s t d else 0) = 0) ∨ rs p q d = (if 0 < o then rs s t d else 0) then (if rs p q d = 0 then (if 0 < o then rs s t d else 0) else rs p q d)
  else rs p q d * rs (p * p + q * q * d - o * (s * s + t * t * d)) (2 * (p * q - o * s * t)) d
abbrev crs (a b c d : Int) : Int := a * d - b * c
abbrev prd (f a b c d : Int) : Int := a * c + f * b * d
abbrev sqr (f a b l : Int) : Int := f * (a * a + f * b * b - l * l)
def sg (f a b l v0 v1 lev : Int) : Int := rs (l * (a * v0 + f * b * v1) - lev * (a * a + f * b * b)) (-(a * v1 - b * v0)) (f * (a * a + f * b * b - l * l))
def sn (f a b l c d m : Int) : Int := dsg (f * l * m * crs a b c d) (m * prd f a b c d) (-l * prd f a b c d) (crs a b c d) (sqr f a b l) (sqr f c d m)
def cs (f a b l c d m : Int) : Int := dsg (f * l * m * prd f a b c d) (-f * m * crs a b c d) (f * l * crs a b c d) (prd f a b c d) (sqr f a b l) (sqr f c d m)
def one (f a b l c d m : Int) : Bool := decide (sn f a b l c d m = 0) && decide (0 < cs f a b l c d m)
def qrt (f a b l : Int) : Int := if sg f a b l 0 1 0 = 0 then (if 0 < sg f a b l 1 0 0 then 0 else 2) else if 0 < sg f a b l 0 1 0 then 1 else 3
def bef (f a b l c d m : Int) : Bool := if qrt f a b l = qrt f c d m then decide ((qrt f a b l).fmod 2 = 1) && decide (0 < sn f a b l c d m) else decide (qrt f a b l < qrt f c d m)
def btw (f a b l c d m x y z : Int) : Bool := if one f a b l c d m = true ∨ one f a b l x y z = true then false else if one f c d m x y z = true then true else
  if bef f c d m x y z = true then bef f c d m a b l && bef f a b l x y z else bef f c d m a b l || bef f a b l x y z
section
variable {K : Type} [OF K]
theorem cast_nn (m : Nat) : (0 : K) ≤ ((m : Int) : K) := by
  induction m with
  | zero =>
    have : ((((0 : Nat) : Int)) : K) = 0 := by grind
    grind
  | succ m ih =>
    have e : ((((m + 1 : Nat) : Int)) : K) = ((m : Int) : K) + 1 := by grind
    have := one_pos (K := K)
    grind
theorem cast_pos {i : Int} (h : 0 < i) : (0 : K) < (i : K) := by
  have e : ((i : K)) = (((i - 1).toNat : Int) : K) + 1 := by
    have : i = ((i - 1).toNat : Int) + 1 := by omega
    rw [congrArg (fun x : Int => (x : K)) this]
    grind
  have := cast_nn (K := K) (i - 1).toNat
  have := one_pos (K := K)
  grind
theorem cast_le {i j : Int} (h : i ≤ j) : (i : K) ≤ (j : K) := by
  have := cast_nn (K := K) (j - i).toNat
  have e : (((j - i).toNat : Int) : K) = (j : K) - (i : K) := by
    rw [show (((j - i).toNat : Nat) : Int) = j - i by omega]
    grind
  grind
theorem cast_lt {i j : Int} (h : i < j) : (i : K) < (j : K) := by
  have := cast_pos (K := K) (i := j - i) (by omega)
  have e : (((j - i : Int)) : K) = (j : K) - (i : K) := by grind
  grind
def Sg (x : K) (s : Int) : Prop := (s = 1 ∧ 0 < x) ∨ (s = 0 ∧ x = 0) ∨ (s = -1 ∧ x < 0)
theorem Sg.uniq {x : K} {s t : Int} (h : Sg x s) (h2 : Sg x t) : s = t := by
  unfold Sg at *
  grind
theorem sg_int (i : Int) : Sg (i : K) i.sign := by
  rcases Int.lt_trichotomy i 0 with h | h | h
  · refine .inr (.inr ⟨Int.sign_eq_neg_one_of_neg h, ?_⟩)
    have := cast_lt (K := K) h
    have e : (((0 : Int)) : K) = 0 := by grind
    grind
  · subst h
    exact .inr (.inl ⟨rfl, by grind⟩)
  · exact .inl ⟨Int.sign_eq_one_of_pos h, cast_pos h⟩
theorem Sg.mul {x y : K} {s t : Int} (h : Sg x s) (h2 : Sg y t) : Sg (x * y) (s * t) := by
  rcases h with ⟨rfl, h⟩ | ⟨rfl, h⟩ | ⟨rfl, h⟩ <;> rcases h2 with ⟨rfl, h2⟩ | ⟨rfl, h2⟩ | ⟨rfl, h2⟩
  · exact .inl ⟨rfl, pos_mul h h2⟩
  · subst h2; exact .inr (.inl ⟨rfl, by grind⟩)
  · refine .inr (.inr ⟨rfl, ?_⟩)
    have := pos_mul (a := x) (b := -y) h (by grind)
    grind
  · subst h; exact .inr (.inl ⟨rfl, by grind⟩)
  · subst h; exact .inr (.inl ⟨rfl, by grind⟩)
  · subst h; exact .inr (.inl ⟨rfl, by grind⟩)
  · refine .inr (.inr ⟨rfl, ?_⟩)
    have := pos_mul (a := -x) (b := y) (by grind) h2
    grind
  · subst h2; exact .inr (.inl ⟨rfl, by grind⟩)
  · refine .inl ⟨rfl, ?_⟩
    have := pos_mul (a := -x) (b := -y) (by grind) (by grind)
    grind
theorem sg_add {x y : K} {s t u : Int} (h : Sg x s) (h2 : Sg y t) (h3 : Sg (x * x - y * y) u) : Sg (x + y) (if (s = 0 ∨ t = 0) ∨ s = t then (if s = 0 then t else s) else s * u) := by
  have opp : ∀ {v : Int}, Sg (x - y) v → v ≠ 0 → Sg (x + y) (v * u) := by
    intro v hv hv0
    have ha : ∃ w, Sg (x + y) w := by
      by_cases c : 0 < x + y
      · exact ⟨1, .inl ⟨rfl, c⟩⟩
      · by_cases c2 : x + y = 0
        · exact ⟨0, .inr (.inl ⟨rfl, c2⟩)⟩
        · exact ⟨-1, .inr (.inr ⟨rfl, by grind⟩)⟩
    obtain ⟨w, hw⟩ := ha
    have m := Sg.mul hv hw
    rw [show (x - y) * (x + y) = x * x - y * y by grind] at m
    have e := Sg.uniq h3 m
    have : w = v * u := by
      subst e
      rcases hv with ⟨rfl, _⟩ | ⟨rfl, _⟩ | ⟨rfl, _⟩
      · omega
      · exact absurd rfl hv0
      · omega
    rw [← this]
    exact hw
  rcases h with ⟨rfl, h⟩ | ⟨rfl, h⟩ | ⟨rfl, h⟩ <;> rcases h2 with ⟨rfl, h2⟩ | ⟨rfl, h2⟩ | ⟨rfl, h2⟩
  · exact .inl ⟨rfl, by grind⟩
  · exact .inl ⟨rfl, by grind⟩
  · exact opp (v := 1) (.inl ⟨rfl, by grind⟩) (by decide)
  · exact .inl ⟨rfl, by grind⟩
  · exact .inr (.inl ⟨rfl, by grind⟩)
  · exact .inr (.inr ⟨rfl, by grind⟩)
  · exact opp (v := -1) (.inr (.inr ⟨rfl, by grind⟩)) (by decide)
  · exact .inr (.inr ⟨rfl, by grind⟩)
  · exact .inr (.inr ⟨rfl, by grind⟩)
theorem root_pos {R : K} {d : Int} (h : 0 ≤ R) (e : R * R = (d : K)) (hd : 0 < d) : 0 < R := by
  by_cases c : R = 0
  · exfalso
    have := cast_pos (K := K) hd
    subst c
    grind
  · grind
theorem root_zero {R : K} {d : Int} (e : R * R = (d : K)) (hd : ¬ 0 < d) : R = 0 := by
  have h1 := nn_sq R
  have h2 := cast_le (K := K) (i := d) (j := 0) (by omega)
  have e0 : (((0 : Int)) : K) = 0 := by grind
  exact sq_zero (by grind)
theorem sg_times {x R : K} {s d : Int} (h : Sg x s) (hR : 0 ≤ R) (e : R * R = (d : K)) : Sg (x * R) (if 0 < d then s else 0) := by
  by_cases hd : 0 < d
  · rw [if_pos hd]
    have hp := root_pos hR e hd
    have := Sg.mul h (.inl ⟨rfl, hp⟩ : Sg R 1)
    rwa [Int.mul_one] at this
  · rw [if_neg hd]
    have := root_zero e hd
    subst this
    exact .inr (.inl ⟨rfl, by grind⟩)
theorem rs_ok {R : K} {d : Int} (p q : Int) (hR : 0 ≤ R) (e : R * R = (d : K)) : Sg ((p : K) + (q : K) * R) (rs p q d) := by
  have h1 := sg_int (K := K) p
  have h2 := sg_times (sg_int (K := K) q) hR e
  have h3 := sg_int (K := K) (p * p - q * q * d)
  have e3 : ((p * p - q * q * d : Int) : K) = (p : K) * (p : K) - ((q : K) * R) * ((q : K) * R) := by grind
  rw [e3] at h3
  exact sg_add h1 h2 h3
theorem dsg_ok {R E : K} {d o : Int} (p q s t : Int) (hR : 0 ≤ R) (eR : R * R = (d : K)) (hE : 0 ≤ E) (eE : E * E = (o : K)) :
    Sg ((p : K) + (q : K) * R + ((s : K) + (t : K) * R) * E) (dsg p q s t d o) := by
  have h1 := rs_ok p q hR eR
  have h2 := sg_times (rs_ok s t hR eR) hE eE
  have h3 := rs_ok (p * p + q * q * d - o * (s * s + t * t * d)) (2 * (p * q - o * s * t)) hR eR
  have e3 : ((p * p + q * q * d - o * (s * s + t * t * d) : Int) : K) + ((2 * (p * q - o * s * t) : Int) : K) * R = ((p : K) + (q : K) * R) * ((p : K) + (q : K) * R) - (((s : K) + (t : K) * R) * E) * (((s : K) + (t : K) * R) * E) := by grind
  rw [e3] at h3
  exact sg_add h1 h2 h3
end
end Geo

namespace Geo
open Lean.Grind
section
variable {K : Type} [OF K]
structure Pl (f a b l : Int) (R X W : K) : Prop where
  hR : 0 ≤ R
  e : R * R = ((sqr f a b l : Int) : K)
  x : X = (l : K) * (a : K) + (b : K) * R
  w : W = (f : K) * (l : K) * (b : K) - (a : K) * R
variable {f a b l c d m : Int} {R X W E Y V : K}
theorem Pl.sgW (h : Pl f a b l R X W) : Sg W (sg f a b l 0 1 0) := by
  have := rs_ok (l * (a * 0 + f * b * 1) - 0 * (a * a + f * b * b)) (-(a * 1 - b * 0)) h.hR h.e
  have e : W = ((l * (a * 0 + f * b * 1) - 0 * (a * a + f * b * b) : Int) : K) + ((-(a * 1 - b * 0) : Int) : K) * R := by rw [h.w]; grind
  rw [e]
  exact this
theorem Pl.sgX (h : Pl f a b l R X W) : Sg X (sg f a b l 1 0 0) := by
  have := rs_ok (l * (a * 1 + f * b * 0) - 0 * (a * a + f * b * b)) (-(a * 0 - b * 1)) h.hR h.e
  have e : X = ((l * (a * 1 + f * b * 0) - 0 * (a * a + f * b * b) : Int) : K) + ((-(a * 0 - b * 1) : Int) : K) * R := by rw [h.x]; grind
  rw [e]
  exact this
theorem sn_ok (h : Pl f a b l R X W) (k : Pl f c d m E Y V) : Sg (X * V - W * Y) (sn f a b l c d m) := by
  have := dsg_ok (f * l * m * crs a b c d) (m * prd f a b c d) (-l * prd f a b c d) (crs a b c d) h.hR h.e k.hR k.e
  rw [h.x, h.w, k.x, k.w]
  refine Eq.mp (congrArg (fun z => Sg z _) ?_) this
  grind
theorem cs_ok (h : Pl f a b l R X W) (k : Pl f c d m E Y V) : Sg ((f : K) * X * Y + W * V) (cs f a b l c d m) := by
  have := dsg_ok (f * l * m * prd f a b c d) (-f * m * crs a b c d) (f * l * crs a b c d) (prd f a b c d) h.hR h.e k.hR k.e
  rw [h.x, h.w, k.x, k.w]
  refine Eq.mp (congrArg (fun z => Sg z _) ?_) this
  grind
theorem Pl.norm (h : Pl f a b l R X W) : (f : K) * X * X + W * W = (f : K) * ((a * a + f * b * b : Int) : K) * ((a * a + f * b * b : Int) : K) := by
  have e := h.e
  rw [h.x, h.w]
  grind
abbrev crK (p q : K × K) : K := p.1 * q.2 - p.2 * q.1
abbrev dtK (f : K) (p q : K × K) : K := f * p.1 * q.1 + p.2 * q.2
def same (f : K) (p q : K × K) : Prop := crK p q = 0 ∧ 0 < dtK f p q
def up (p : K × K) : Prop := 0 < p.2 ∨ (p.2 = 0 ∧ 0 < p.1)
def befK (p q : K × K) : Prop := (up p ∧ ¬ up q) ∨ ((up p ↔ up q) ∧ 0 < crK p q)
def btwK (f : K) (m l h : K × K) : Prop := ¬ same f m l ∧ ¬ same f m h ∧ (same f l h ∨ (befK l h ∧ befK l m ∧ befK m h) ∨ (¬ befK l h ∧ (befK l m ∨ befK m h)))
def nz (p : K × K) : Prop := p.1 ≠ 0 ∨ p.2 ≠ 0
theorem one_iff (h : Pl f a b l R X W) (k : Pl f c d m E Y V) : one f a b l c d m = true ↔ same (f : K) (X, W) (Y, V) := by
  have h1 := sn_ok h k
  have h2 := cs_ok h k
  unfold one same
  simp only [Bool.and_eq_true, decide_eq_true_eq]
  generalize sn f a b l c d m = s at *
  generalize cs f a b l c d m = t at *
  unfold Sg at *
  grind
theorem up_iff (h : Pl f a b l R X W) (hz : nz (X, W)) : (qrt f a b l = 0 ∧ W = 0 ∧ 0 < X) ∨ (qrt f a b l = 1 ∧ 0 < W) ∨ (qrt f a b l = 2 ∧ W = 0 ∧ X < 0) ∨ (qrt f a b l = 3 ∧ W < 0) := by
  have h1 := h.sgW
  have h2 := h.sgX
  unfold qrt
  unfold nz at hz
  simp only at hz
  generalize sg f a b l 0 1 0 = s at *
  generalize sg f a b l 1 0 0 = t at *
  unfold Sg at *
  grind
theorem bef_iff (h : Pl f a b l R X W) (k : Pl f c d m E Y V) (hz : nz (X, W)) (kz : nz (Y, V)) : bef f a b l c d m = true ↔ befK (X, W) (Y, V) := by
  have h1 := sn_ok h k
  have q1 := up_iff h hz
  have q2 := up_iff k kz
  unfold bef befK up
  generalize qrt f a b l = u at *
  generalize qrt f c d m = v at *
  generalize sn f a b l c d m = s at *
  unfold Sg at h1
  simp only [crK]
  have p1 : 0 < X → 0 < V → 0 < X * V := pos_mul
  have p2 : 0 < W → 0 < Y → 0 < W * Y := pos_mul
  have p3 : X < 0 → V < 0 → 0 < X * V := fun h h' => by
    have := pos_mul (a := -X) (b := -V) (by grind) (by grind)
    grind
  have p4 : W < 0 → Y < 0 → 0 < W * Y := fun h h' => by
    have := pos_mul (a := -W) (b := -Y) (by grind) (by grind)
    grind
  rcases q1 with ⟨rfl, w1, x1⟩ | ⟨rfl, w1⟩ | ⟨rfl, w1, x1⟩ | ⟨rfl, w1⟩ <;> rcases q2 with ⟨rfl, w2, x2⟩ | ⟨rfl, w2⟩ | ⟨rfl, w2, x2⟩ | ⟨rfl, w2⟩ <;> (try subst w1) <;> (try subst w2) <;> simp <;> grind
variable {g : K} {p q r : K × K}
theorem same_symm (h : same g p q) : same g q p := by
  unfold same at *
  grind
theorem same_refl (hg : 0 < g) (h : nz p) : same g p p := by
  refine ⟨by grind, ?_⟩
  have h1 := nn_sq p.1
  have h2 := nn_sq p.2
  have h3 := nn_mul (Std.le_of_lt hg) h1
  show 0 < g * p.1 * p.1 + p.2 * p.2
  rcases h with h | h
  · have : p.1 * p.1 ≠ 0 := fun e => h (sq_zero e)
    have := pos_mul hg (b := p.1 * p.1) (by grind)
    grind
  · have : p.2 * p.2 ≠ 0 := fun e => h (sq_zero e)
    grind
theorem nup (hz : nz p) : ¬ up p ↔ (p.2 < 0 ∨ (p.2 = 0 ∧ p.1 < 0)) := by
  unfold up nz at *
  grind
theorem same_of (hg : 0 < g) (hp : nz p) (hq : nz q) (hu : up p ↔ up q) (e : crK p q = 0) : same g p q := by
  refine ⟨e, ?_⟩
  have e : p.1 * q.2 - p.2 * q.1 = 0 := e
  show 0 < g * p.1 * q.1 + p.2 * q.2
  have key : (0 < p.2 * q.2 → 0 ≤ p.1 * q.1) := by
    intro h
    have h1 : (p.1 * q.1) * (p.2 * q.2) = (p.1 * q.2) * (p.1 * q.2) := by grind
    have h2 := nn_sq (p.1 * q.2)
    by_cases c : 0 ≤ p.1 * q.1
    · exact c
    · have := pos_mul (a := -(p.1 * q.1)) (b := p.2 * q.2) (by grind) h
      grind
  by_cases hup : up p
  · have huq := hu.1 hup
    rcases hup with a1 | ⟨a1, a2⟩ <;> rcases huq with b1 | ⟨b1, b2⟩
    · have h1 := pos_mul a1 b1
      have h2 := nn_mul (Std.le_of_lt hg) (key h1)
      grind
    · exfalso
      have := pos_mul a1 b2
      rw [b1] at e
      grind
    · exfalso
      have := pos_mul a2 b1
      rw [a1] at e
      grind
    · have := pos_mul hg (pos_mul a2 b2)
      rw [a1]
      grind
  · have huq : ¬ up q := fun h => hup (hu.2 h)
    rw [nup hp] at hup
    rw [nup hq] at huq
    rcases hup with a1 | ⟨a1, a2⟩ <;> rcases huq with b1 | ⟨b1, b2⟩
    · have h1 := pos_mul (a := -p.2) (b := -q.2) (by grind) (by grind)
      have h2 := nn_mul (Std.le_of_lt hg) (key (by grind))
      grind
    · exfalso
      have := pos_mul (a := -p.2) (b := -q.1) (by grind) (by grind)
      rw [b1] at e
      grind
    · exfalso
      have := pos_mul (a := -p.1) (b := -q.2) (by grind) (by grind)
      rw [a1] at e
      grind
    · have := pos_mul hg (pos_mul (a := -p.1) (b := -q.1) (by grind) (by grind))
      rw [a1]
      grind
theorem bef_tri (hg : 0 < g) (hp : nz p) (hq : nz q) (h : ¬ same g p q) : befK p q ↔ ¬ befK q p := by
  have k := same_of hg hp hq
  unfold befK
  have e : crK q p = -crK p q := by simp only [crK]; grind
  rw [e]
  by_cases hu : up p ↔ up q
  · have : crK p q ≠ 0 := fun z => h (k hu z)
    generalize crK p q = u at *
    grind
  · grind
theorem same_up (hg : 0 < g) (h : same g p q) (hp : nz p) : up p ↔ up q := by
  obtain ⟨e, h2⟩ := h
  have e : p.1 * q.2 - p.2 * q.1 = 0 := e
  have h2 : 0 < g * p.1 * q.1 + p.2 * q.2 := h2
  have n1 := (same_refl hg hp).2
  have n1 : 0 < g * p.1 * p.1 + p.2 * p.2 := n1
  -- n q = (dt) p, in both numbers
  have e1 : (g * p.1 * p.1 + p.2 * p.2) * q.1 = (g * p.1 * q.1 + p.2 * q.2) * p.1 := by grind
  have e2 : (g * p.1 * p.1 + p.2 * p.2) * q.2 = (g * p.1 * q.1 + p.2 * q.2) * p.2 := by grind
  generalize g * p.1 * p.1 + p.2 * p.2 = n at *
  generalize g * p.1 * q.1 + p.2 * q.2 = t at *
  have sgn : ∀ {u v : K}, n * v = t * u → (0 < u ↔ 0 < v) ∧ (u = 0 ↔ v = 0) := by
    intro u v ee
    have f1 : 0 < u → 0 < t * u := fun h => pos_mul h2 h
    have f2 : 0 < v → 0 < n * v := fun h => pos_mul n1 h
    have f3 : u < 0 → 0 < t * (-u) := fun h => pos_mul h2 (by grind)
    have f4 : v < 0 → 0 < n * (-v) := fun h => pos_mul n1 (by grind)
    have f5 : u = 0 → t * u = 0 := fun h => by rw [h]; grind
    have f6 : v = 0 → n * v = 0 := fun h => by rw [h]; grind
    grind
  have s1 := sgn e1
  have s2 := sgn e2
  unfold up
  grind
theorem same_irr (hg : 0 < g) (h : same g p q) (hp : nz p) : ¬ befK p q := by
  have := same_up hg h hp
  unfold befK
  rw [h.1]
  grind
theorem btw_of (hp : nz p) (hq : nz q) (hr : nz r) (h1 : 0 < crK p q) (h2 : 0 < crK q r) : btwK g q p r := by
  have e1 : crK q p ≠ 0 := by simp only [crK] at *; grind
  refine ⟨fun h => e1 h.1, fun h => by have := h.1; grind, ?_⟩
  right
  have id : q.2 * crK p r = p.2 * crK q r + r.2 * crK p q := by simp only [crK]; grind
  have m1 : ∀ {x : K}, 0 < x → 0 < x * crK q r := fun h => pos_mul h h2
  have m2 : ∀ {x : K}, 0 < x → 0 < x * crK p q := fun h => pos_mul h h1
  have n1 : ∀ {x : K}, x < 0 → 0 < (-x) * crK q r := fun h => pos_mul (by grind) h2
  have n2 : ∀ {x : K}, x < 0 → 0 < (-x) * crK p q := fun h => pos_mul (by grind) h1
  by_cases c : befK p r
  · refine .inl ⟨c, ?_⟩
    have cc := c
    unfold befK at c ⊢
    by_cases up1 : up p <;> by_cases up2 : up q <;> by_cases up3 : up r <;> simp [up1, up2, up3, h1, h2] at c ⊢
    · -- p, r up, q down
      have u2 := (nup hq).1 up2
      have m3 : q.2 < 0 → 0 < (-q.2) * crK p r := fun h => pos_mul (by grind) c
      unfold up at up1 up3
      rcases up1 with a | ⟨a, a'⟩
      · have := m1 a
        rcases up3 with b | ⟨b, b'⟩
        · have := m2 b
          rcases u2 with u | ⟨u, u'⟩
          · have := m3 u; grind
          · rw [u] at id; grind
        · rw [b] at id
          rcases u2 with u | ⟨u, u'⟩
          · have := m3 u; grind
          · rw [u] at id; grind
      · rw [a] at id
        rcases up3 with b | ⟨b, b'⟩
        · have := m2 b
          rcases u2 with u | ⟨u, u'⟩
          · have := m3 u; grind
          · rw [u] at id; grind
        · exfalso
          simp only [crK] at c
          rw [a, b] at c
          grind
    · have u1 := (nup hp).1 up1
      have u3 := (nup hr).1 up3
      have m3 : 0 < q.2 → 0 < q.2 * crK p r := fun h => pos_mul h c
      unfold up at up2
      rcases u1 with a | ⟨a, a'⟩
      · have := n1 a
        rcases u3 with b | ⟨b, b'⟩
        · have := n2 b
          rcases up2 with u | ⟨u, u'⟩
          · have := m3 u; grind
          · rw [u] at id; grind
        · rw [b] at id
          rcases up2 with u | ⟨u, u'⟩
          · have := m3 u; grind
          · rw [u] at id; grind
      · rw [a] at id
        rcases u3 with b | ⟨b, b'⟩
        · have := n2 b
          rcases up2 with u | ⟨u, u'⟩
          · have := m3 u; grind
          · rw [u] at id; grind
        · exfalso
          simp only [crK] at c
          rw [a, b] at c
          grind
  · refine .inr ⟨c, ?_⟩
    unfold befK at c ⊢
    by_cases up1 : up p <;> by_cases up2 : up q <;> by_cases up3 : up r <;> simp [up1, up2, up3, h1, h2] at c ⊢
end
end Geo

namespace Geo
open Lean.Grind
class BI (i : Int) (v : outParam Nat) : Prop where
  h : i.natAbs ≤ 2 ^ v
theorem two_max (v w : Nat) : 2 ^ v ≤ 2 ^ max v w ∧ 2 ^ w ≤ 2 ^ max v w := ⟨Nat.pow_le_pow_right (by decide) (by omega), Nat.pow_le_pow_right (by decide) (by omega)⟩
instance bi_mul {i j : Int} {v w : Nat} [h : BI i v] [k : BI j w] : BI (i * j) (v + w) := ⟨by
  rw [Int.natAbs_mul, Nat.pow_add]
  exact Nat.mul_le_mul h.h k.h⟩
instance bi_add {i j : Int} {v w : Nat} [h : BI i v] [k : BI j w] : BI (i + j) (max v w + 1) := ⟨by
  have := two_max v w
  have := h.h
  have := k.h
  rw [Nat.pow_succ]
  omega⟩
instance bi_sub {i j : Int} {v w : Nat} [h : BI i v] [k : BI j w] : BI (i - j) (max v w + 1) := ⟨by
  have := two_max v w
  have := h.h
  have := k.h
  rw [Nat.pow_succ]
  omega⟩
instance bi_neg {i : Int} {v : Nat} [h : BI i v] : BI (-i) v := ⟨by rw [Int.natAbs_neg]; exact h.h⟩
instance bi_two : BI 2 1 := ⟨by decide⟩
theorem BI.mono {i : Int} {v w : Nat} (h : BI i v) (e : v ≤ w) : BI i w := ⟨Nat.le_trans h.h (Nat.pow_le_pow_right (by decide) e)⟩
section
variable {K : Type} [OF K]
def P (v : Nat) : K := (((2 ^ v : Nat) : Int) : K)
theorem P_mono {v w : Nat} (h : v ≤ w) : (P v : K) ≤ P w := cast_le (by
  have := Nat.pow_le_pow_right (n := 2) (by decide) h
  omega)
theorem P_add (v w : Nat) : (P (v + w) : K) = P v * P w := by
  unfold P
  rw [Nat.pow_add]
  have : (((2 ^ v * 2 ^ w : Nat)) : Int) = ((2 ^ v : Nat) : Int) * ((2 ^ w : Nat) : Int) := Int.natCast_mul _ _
  rw [this]
  grind
theorem P_succ (v : Nat) : (P (v + 1) : K) = P v + P v := by
  unfold P
  rw [Nat.pow_succ, show 2 ^ v * 2 = 2 ^ v + 2 ^ v by omega, Int.natCast_add]
  grind
theorem P_zero : (P 0 : K) = 1 := by
  unfold P
  rw [Nat.pow_zero]
  grind
theorem P_ge (v : Nat) : (1 : K) ≤ P v := by
  have := P_mono (K := K) (Nat.zero_le v)
  rw [P_zero] at this
  exact this
class BK (x : K) (v : outParam Nat) : Prop where
  lo : -P v ≤ x
  hi : x ≤ P v
theorem BK.mono {x : K} {v w : Nat} (h : BK x v) (e : v ≤ w) : BK x w := by
  have := P_mono (K := K) e
  have := h.lo
  have := h.hi
  exact ⟨by grind, by grind⟩
instance bk_int {i : Int} {v : Nat} [h : BI i v] : BK (i : K) v := by
  have h := h.h
  have e1 := cast_le (K := K) (i := i) (j := ((2 ^ v : Nat) : Int)) (by omega)
  have e2 := cast_le (K := K) (i := -((2 ^ v : Nat) : Int)) (j := i) (by omega)
  have e3 : (((-((2 ^ v : Nat) : Int) : Int)) : K) = -(((2 ^ v : Nat) : Int) : K) := by grind
  refine ⟨?_, e1⟩
  unfold P
  grind
theorem bk_mul' {x y M N : K} (h1 : -M ≤ x) (h2 : x ≤ M) (k1 : -N ≤ y) (k2 : y ≤ N) : -(M * N) ≤ x * y ∧ x * y ≤ M * N := by
  have a1 := nn_mul (a := M - x) (b := N - y) (by grind) (by grind)
  have a2 := nn_mul (a := M + x) (b := N + y) (by grind) (by grind)
  have a3 := nn_mul (a := M - x) (b := N + y) (by grind) (by grind)
  have a4 := nn_mul (a := M + x) (b := N - y) (by grind) (by grind)
  constructor <;> grind
instance bk_mul {x y : K} {v w : Nat} [h : BK x v] [k : BK y w] : BK (x * y) (v + w) := by
  have := bk_mul' h.lo h.hi k.lo k.hi
  exact ⟨by rw [P_add]; exact this.1, by rw [P_add]; exact this.2⟩
instance bk_add {x y : K} {v w : Nat} [h : BK x v] [k : BK y w] : BK (x + y) (max v w + 1) := by
  have a := h.mono (Nat.le_max_left v w)
  have b := k.mono (Nat.le_max_right v w)
  have := a.lo; have := a.hi; have := b.lo; have := b.hi
  exact ⟨by rw [P_succ]; grind, by rw [P_succ]; grind⟩
instance bk_sub {x y : K} {v w : Nat} [h : BK x v] [k : BK y w] : BK (x - y) (max v w + 1) := by
  have a := h.mono (Nat.le_max_left v w)
  have b := k.mono (Nat.le_max_right v w)
  have := a.lo; have := a.hi; have := b.lo; have := b.hi
  exact ⟨by rw [P_succ]; grind, by rw [P_succ]; grind⟩
theorem bk_root {R : K} {d : Int} {v : Nat} (hR : 0 ≤ R) (e : R * R = (d : K)) (hd : BI d (v + v)) : BK R v := by
  have h := (bk_int (K := K) (h := hd)).hi
  rw [P_add] at h
  have := P_ge (K := K) v
  have := one_pos (K := K)
  have := le_of_sq (a := R) (b := P v) (by grind) (by grind)
  exact ⟨by grind, this⟩
theorem int_sep {n : Int} {x : K} (e : x = (n : K)) (h : x ≠ 0) : 1 ≤ x ∨ 1 ≤ -x := by
  rcases Int.lt_trichotomy n 0 with c | c | c
  · right
    have := cast_le (K := K) (i := n) (j := -1) (by omega)
    have e1 : (((-1 : Int)) : K) = -1 := by grind
    grind
  · subst c
    exfalso
    apply h
    rw [e]
    grind
  · left
    have := cast_le (K := K) (i := 1) (j := n) (by omega)
    have e1 : (((1 : Int)) : K) = 1 := by grind
    grind
theorem sep_of {x y M N : K} (hM : 1 ≤ M) (h1 : -M ≤ y) (h2 : y ≤ M) (hN : 1 ≤ (x * y) * N ∨ 1 ≤ -(x * y) * N) (hN1 : 1 ≤ N) : 1 ≤ x * (M * N) ∨ 1 ≤ -x * (M * N) := by
  have := one_pos (K := K)
  have z : 0 ≤ N := by grind
  by_cases c : 0 ≤ x
  · left
    have a1 := nn_mul (nn_mul c (b := M - y) (by grind)) z
    have a2 := nn_mul (nn_mul c (b := M + y) (by grind)) z
    grind
  · right
    have a1 := nn_mul (nn_mul (a := -x) (b := M - y) (by grind) (by grind)) z
    have a2 := nn_mul (nn_mul (a := -x) (b := M + y) (by grind) (by grind)) z
    grind
theorem sep_mono {x M N : K} (h : 1 ≤ x * M ∨ 1 ≤ -x * M) (hM : 1 ≤ M) (hMN : M ≤ N) : 1 ≤ x * N ∨ 1 ≤ -x * N := by
  have := one_pos (K := K)
  rcases h with h | h
  · left
    have : 0 ≤ x := by
      by_cases c : 0 ≤ x
      · exact c
      · have := nn_mul (a := -x) (b := M) (by grind) (by grind)
        grind
    have := nn_mul this (b := N - M) (by grind)
    grind
  · right
    have : 0 ≤ -x := by
      by_cases c : 0 ≤ -x
      · exact c
      · have := nn_mul (a := x) (b := M) (by grind) (by grind)
        grind
    have := nn_mul this (b := N - M) (by grind)
    grind
theorem sep2 {R : K} {d p q : Int} {v : Nat} (e : R * R = (d : K)) (hx : (p : K) + (q : K) * R ≠ 0) (hb : BK ((p : K) - (q : K) * R) v) : 1 ≤ ((p : K) + (q : K) * R) * P v ∨ 1 ≤ -((p : K) + (q : K) * R) * P v := by
  have h1 := P_ge (K := K) v
  have en : ((p : K) + (q : K) * R) * ((p : K) - (q : K) * R) = ((p * p - q * q * d : Int) : K) := by grind
  by_cases c : ((p : K) + (q : K) * R) * ((p : K) - (q : K) * R) = 0
  · have c2 : (p : K) - (q : K) * R = 0 := by
      rcases mul_zero' c with h | h
      · exact absurd h hx
      · exact h
    have e2 : (p : K) + (q : K) * R = ((2 * p : Int) : K) := by grind
    have := int_sep e2 hx
    refine sep_mono (M := 1) ?_ (by grind) h1
    grind
  · have := int_sep en c
    have := sep_of (x := (p : K) + (q : K) * R) (y := (p : K) - (q : K) * R) (M := P v) (N := 1) h1 hb.lo hb.hi (by grind) (by grind)
    grind
theorem sep4 {R E : K} {d o p q s t : Int} {v1 v2 : Nat} (eR : R * R = (d : K)) (eE : E * E = (o : K)) (hx : (p : K) + (q : K) * R + ((s : K) + (t : K) * R) * E ≠ 0)
    (b1 : BK ((p : K) - (q : K) * R) v1) (b2 : BK (((p * p + q * q * d - o * (s * s + t * t * d) : Int) : K) - ((2 * (p * q - o * s * t) : Int) : K) * R) v1) (b3 : BK ((p : K) + (q : K) * R - ((s : K) + (t : K) * R) * E) v2) :
    1 ≤ ((p : K) + (q : K) * R + ((s : K) + (t : K) * R) * E) * P (v2 + v1) ∨ 1 ≤ -((p : K) + (q : K) * R + ((s : K) + (t : K) * R) * E) * P (v2 + v1) := by
  have g1 := P_ge (K := K) v1
  have g2 := P_ge (K := K) v2
  rw [P_add]
  have en : ((p : K) + (q : K) * R + ((s : K) + (t : K) * R) * E) * ((p : K) + (q : K) * R - ((s : K) + (t : K) * R) * E) = ((p * p + q * q * d - o * (s * s + t * t * d) : Int) : K) + ((2 * (p * q - o * s * t) : Int) : K) * R := by grind
  by_cases c : ((p : K) + (q : K) * R + ((s : K) + (t : K) * R) * E) * ((p : K) + (q : K) * R - ((s : K) + (t : K) * R) * E) = 0
  · have c2 : (p : K) + (q : K) * R - ((s : K) + (t : K) * R) * E = 0 := by
      rcases mul_zero' c with h | h
      · exact absurd h hx
      · exact h
    have hA : (p : K) + (q : K) * R ≠ 0 := fun z => hx (by grind)
    have s1 := sep2 eR hA b1
    have o := one_pos (K := K)
    have m := nn_mul (a := (P v2 : K) - 1) (b := P v1) (by grind) (by grind)
    have s2 := sep_mono (N := P v2 * P v1) s1 g1 (by grind)
    have e2 : (p : K) + (q : K) * R + ((s : K) + (t : K) * R) * E = ((p : K) + (q : K) * R) + ((p : K) + (q : K) * R) := by grind
    rw [e2]
    generalize ((p : K) + (q : K) * R) = A at *
    generalize (P v2 * P v1 : K) = M at *
    rcases s2 with h | h
    · left
      grind
    · right
      grind
  · have := sep2 eR (by rw [← en]; exact c) b2
    rw [← en] at this
    exact sep_of g2 b3.lo b3.hi this g1
end
end Geo

namespace Geo
open Lean.Grind
structure NearW (f a b l : Int) (n : Nat) (X Y : Int) : Prop where
  ex : ∃ r : Int, 0 ≤ r ∧ r * r ≤ sqr f a b l * 2 ^ (2 * n) ∧ sqr f a b l * 2 ^ (2 * n) < (r + 1) * (r + 1) ∧ X = (f * l * a * 2 ^ n + f * b * r).fdiv (f * (a * a + f * b * b)) ∧ Y = (f * l * b * 2 ^ n - a * r).fdiv (f * (a * a + f * b * b))
structure AngG (f a b l : Int) : Prop where
  f1 : 1 ≤ f
  f3 : f ≤ 3
  n : l * l < a * a + f * b * b
theorem fdiv_bd (z s : Int) (hs : 0 < s) : z.fdiv s * s ≤ z ∧ z < z.fdiv s * s + s := by
  rw [Int.fdiv_eq_ediv_of_nonneg _ (by omega)]
  have h1 := Int.mul_ediv_add_emod z s
  have h2 := Int.emod_nonneg z (show s ≠ 0 by omega)
  have h3 := Int.emod_lt_of_pos z hs
  have h4 : z / s * s = s * (z / s) := Int.mul_comm _ _
  omega
theorem abs_le_sq (x : Int) : x ≤ x * x ∧ -x ≤ x * x := by
  rcases Int.lt_trichotomy x 0 with h | h | h
  · have := Int.mul_le_mul_of_nonneg_left (a := 1) (b := -x) (c := -x) (by omega) (by omega)
    have e : -x * -x = x * x := by grind
    omega
  · subst h; decide
  · have := Int.mul_le_mul_of_nonneg_left (a := 1) (b := x) (c := x) (by omega) (by omega)
    omega
section
variable {K : Type} [OF K] {f a b l c d m : Int} {R X W E Y V : K}
theorem P_int (n : Nat) : (P n : K) = (((2 : Int) ^ n : Int) : K) := by
  unfold P
  rw [show ((2 ^ n : Nat) : Int) = (2 : Int) ^ n by exact_mod_cast rfl]
theorem AngG.nsq (h : AngG f a b l) : 0 < a * a + f * b * b ∧ a ≤ a * a + f * b * b ∧ -a ≤ a * a + f * b * b ∧ b ≤ a * a + f * b * b ∧ -b ≤ a * a + f * b * b := by
  have h1 := abs_le_sq a
  have h2 := abs_le_sq b
  have ha : 0 ≤ a * a := by rcases Int.le_total 0 a with h | h <;> omega
  have hb : 0 ≤ b * b := by rcases Int.le_total 0 b with h | h <;> omega
  have hl := abs_le_sq l
  have hl0 : 0 ≤ l * l := by rcases Int.le_total 0 l with h | h <;> omega
  have h3 := Int.mul_le_mul_of_nonneg_right (a := 1) (b := f) (c := b * b) h.f1 hb
  have e : f * b * b = f * (b * b) := Int.mul_assoc _ _ _
  have := h.n
  omega
theorem mul_cancel {g x y : K} (hg : 0 < g) (h : g * x ≤ g * y) : x ≤ y := by
  by_cases c : x ≤ y
  · exact c
  · have := pos_mul hg (b := x - y) (by grind)
    grind
theorem root_near {R T : K} {D r t2 : Int} (e : R * R = (D : K)) (eT : (t2 : K) = T * T) (h1 : r * r ≤ D * t2) (h2 : D * t2 < (r + 1) * (r + 1)) (r0 : 0 ≤ r) (hRT : 0 ≤ R * T) : (r : K) ≤ R * T ∧ R * T ≤ (r : K) + 1 := by
  have q1 := cast_le (K := K) h1
  have q2 := cast_lt (K := K) h2
  have q0 := cast_le (K := K) r0
  have i0 : (((0 : Int)) : K) = 0 := by grind
  have o := one_pos (K := K)
  have e1 : ((r * r : Int) : K) = (r : K) * (r : K) := by grind
  have e2 : ((D * t2 : Int) : K) = (R * T) * (R * T) := by
    have : ((D * t2 : Int) : K) = (D : K) * (t2 : K) := by grind
    rw [this, ← e, eT]
    grind
  have e3 : (((r + 1) * (r + 1) : Int) : K) = ((r : K) + 1) * ((r : K) + 1) := by grind
  rw [e1, e2] at q1
  rw [e2, e3] at q2
  exact ⟨le_of_sq hRT q1, le_of_sq (by grind) (Std.le_of_lt q2)⟩
theorem near_k {n : Nat} {x y : Int} (hA : AngG f a b l) (h : Pl f a b l R X W) (nw : NearW f a b l n x y) :
    (-(((a * a + f * b * b : Int) : K) + ((a * a + f * b * b : Int) : K)) ≤ (x : K) * ((a * a + f * b * b : Int) : K) - X * P n ∧ (x : K) * ((a * a + f * b * b : Int) : K) - X * P n ≤ ((a * a + f * b * b : Int) : K) + ((a * a + f * b * b : Int) : K)) ∧
    (-((f : K) * (((a * a + f * b * b : Int) : K) + ((a * a + f * b * b : Int) : K))) ≤ (y : K) * (f : K) * ((a * a + f * b * b : Int) : K) - W * P n ∧ (y : K) * (f : K) * ((a * a + f * b * b : Int) : K) - W * P n ≤ (f : K) * (((a * a + f * b * b : Int) : K) + ((a * a + f * b * b : Int) : K))) := by
  obtain ⟨r, r0, r1, r2, ex, ey⟩ := nw.ex
  obtain ⟨n0, na1, na2, nb1, nb2⟩ := hA.nsq
  have hf := hA.f1
  have hS : 0 < f * (a * a + f * b * b) := Int.mul_pos (by omega) n0
  have d1 := fdiv_bd (f * l * a * 2 ^ n + f * b * r) _ hS
  have d2 := fdiv_bd (f * l * b * 2 ^ n - a * r) _ hS
  rw [← ex] at d1
  rw [← ey] at d2
  have hx := h.x
  have hw := h.w
  have hR := h.hR
  have he := h.e
  -- the root
  have T2 : (P (2 * n) : K) = P n * P n := by rw [show 2 * n = n + n by omega, P_add]
  have c1 := cast_le (K := K) d1.1
  have c2 := cast_lt (K := K) d1.2
  have c3 := cast_le (K := K) d2.1
  have c4 := cast_lt (K := K) d2.2
  have a1 := cast_le (K := K) na1
  have a2 := cast_le (K := K) na2
  have b1 := cast_le (K := K) nb1
  have b2 := cast_le (K := K) nb2
  have f1 := cast_le (K := K) hf
  have np := cast_lt (K := K) n0
  have eT := P_int (K := K) n
  have eT2 := P_int (K := K) (2 * n)
  generalize ((2 : Int) ^ n) = t at *
  generalize ((2 : Int) ^ (2 * n)) = t2 at *
  have hT := P_ge (K := K) n
  have o := one_pos (K := K)
  have i1 : (((1 : Int)) : K) = 1 := by grind
  have i0 : (((0 : Int)) : K) = 0 := by grind
  have hRT := nn_mul hR (b := P n) (by grind)
  obtain ⟨g3, g4⟩ := root_near (T := P n) he (by rw [← eT2, T2]) r1 r2 r0 hRT
  clear r1 r2
  have ei : ((-a : Int) : K) = -(a : K) := by grind
  have ej : ((-b : Int) : K) = -(b : K) := by grind
  generalize hN : ((a * a + f * b * b : Int) : K) = N at *
  have e1 : ((x * (f * (a * a + f * b * b)) : Int) : K) = (x : K) * ((f : K) * N) := by rw [← hN]; grind
  have e2 : ((x * (f * (a * a + f * b * b)) + f * (a * a + f * b * b) : Int) : K) = (x : K) * ((f : K) * N) + (f : K) * N := by rw [← hN]; grind
  have e3 : ((y * (f * (a * a + f * b * b)) : Int) : K) = (y : K) * ((f : K) * N) := by rw [← hN]; grind
  have e4 : ((y * (f * (a * a + f * b * b)) + f * (a * a + f * b * b) : Int) : K) = (y : K) * ((f : K) * N) + (f : K) * N := by rw [← hN]; grind
  have e5 : ((f * l * a * t + f * b * r : Int) : K) = (f : K) * (l : K) * (a : K) * P n + (f : K) * (b : K) * (r : K) := by rw [eT]; grind
  have e6 : ((f * l * b * t - a * r : Int) : K) = (f : K) * (l : K) * (b : K) * P n - (a : K) * (r : K) := by rw [eT]; grind
  rw [e1, e5] at c1
  rw [e2, e5] at c2
  rw [e3, e6] at c3
  rw [e4, e6] at c4
  have hfp : 0 < (f : K) := by grind
  -- the rest of the root
  have m1 := bk_mul' (x := (b : K)) (y := R * P n - (r : K)) (M := N) (N := 1) (by grind) (by grind) (by grind) (by grind)
  have m2 := bk_mul' (x := (a : K)) (y := R * P n - (r : K)) (M := N) (N := 1) (by grind) (by grind) (by grind) (by grind)
  have fm1 := nn_mul (Std.le_of_lt hfp) (b := N - (b : K) * (R * P n - (r : K))) (by grind)
  have fm2 := nn_mul (Std.le_of_lt hfp) (b := N + (b : K) * (R * P n - (r : K))) (by grind)
  have fN := nn_mul (a := (f : K) - 1) (b := N) (by grind) (by grind)
  refine ⟨⟨?_, ?_⟩, ?_, ?_⟩
  · refine mul_cancel hfp ?_
    rw [hx]
    grind
  · refine mul_cancel hfp ?_
    rw [hx]
    grind
  · rw [hw]
    grind
  · rw [hw]
    grind
end
end Geo

namespace Geo
open Lean.Grind
section
variable {K : Type} [OF K] {f a b l c d m : Int} {R X W E Y V : K}
theorem Pl.nz (hA : AngG f a b l) (h : Pl f a b l R X W) : Geo.nz (X, W) := by
  have hn := cast_pos (K := K) hA.nsq.1
  have hf := cast_pos (K := K) (show 0 < f by have := hA.f1; omega)
  have := h.norm
  have := pos_mul hf (pos_mul hn hn)
  unfold Geo.nz
  by_cases c : X = 0
  · by_cases c2 : W = 0
    · exfalso
      subst c; subst c2
      grind
    · exact .inr c2
  · exact .inl c
theorem btw_iff {p q r : Int} {F Z U : K} (h0 : Pl f p q r F Z U) (h : Pl f a b l R X W) (k : Pl f c d m E Y V) (z0 : Geo.nz (Z, U)) (z1 : Geo.nz (X, W)) (z2 : Geo.nz (Y, V)) :
    btw f p q r a b l c d m = true ↔ btwK (f : K) (Z, U) (X, W) (Y, V) := by
  have o1 := one_iff h0 h
  have o2 := one_iff h0 k
  have o3 := one_iff h k
  have b1 := bef_iff h k z1 z2
  have b2 := bef_iff h h0 z1 z0
  have b3 := bef_iff h0 k z0 z2
  unfold btw btwK
  rw [← o1, ← o2, ← o3, ← b1, ← b2, ← b3]
  generalize one f p q r a b l = u1
  generalize one f p q r c d m = u2
  generalize one f a b l c d m = u3
  generalize bef f a b l c d m = u4
  generalize bef f a b l p q r = u5
  generalize bef f p q r c d m = u6
  cases u1 <;> cases u2 <;> cases u3 <;> cases u4 <;> cases u5 <;> cases u6 <;> simp
variable {v : Nat}
theorem bi_f (h : AngG f a b l) : BI f 2 := ⟨by have := h.f1; have := h.f3; omega⟩
theorem bk_all (hA : AngG f a b l) (h : Pl f a b l R X W) (ba : BI a v) (bb : BI b v) (bl : BI l v) :
    BK R (v + 3) ∧ BK X (2 * v + 4) ∧ BK W (2 * v + 4) ∧ BK (((a * a + f * b * b : Int)) : K) (2 * v + 3) := by
  have bf := bi_f hA
  have r1 : BI (sqr f a b l) ((v + 3) + (v + 3)) := (inferInstance : BI (f * (a * a + f * b * b - l * l)) _).mono (by omega)
  have r := bk_root h.hR h.e r1
  refine ⟨r, ?_, ?_, ?_⟩
  · rw [h.x]
    exact (inferInstance : BK ((l : K) * (a : K) + (b : K) * R) _).mono (by omega)
  · rw [h.w]
    exact (inferInstance : BK ((f : K) * (l : K) * (b : K) - (a : K) * R) _).mono (by omega)
  · exact (inferInstance : BK (((a * a + f * b * b : Int)) : K) _).mono (by omega)
theorem sep_sn (hA : AngG f a b l) (hH : AngG f c d m) (h : Pl f a b l R X W) (k : Pl f c d m E Y V) (ba : BI a v) (bb : BI b v) (bl : BI l v) (bc : BI c v) (bd : BI d v) (bm : BI m v) (hS : X * V - W * Y ≠ 0) :
    1 ≤ (X * V - W * Y) * P (12 * v + 26) ∨ 1 ≤ -(X * V - W * Y) * P (12 * v + 26) := by
  have bf := bi_f hA
  have bR := (bk_all hA h ba bb bl).1
  have bE := (bk_all hH k bc bd bm).1
  have e : X * V - W * Y = ((f * l * m * crs a b c d : Int) : K) + ((m * prd f a b c d : Int) : K) * R + (((-l * prd f a b c d : Int) : K) + ((crs a b c d : Int) : K) * R) * E := by
    rw [h.x, h.w, k.x, k.w]
    grind
  rw [e] at hS ⊢
  have b1 : BK (((f * l * m * crs a b c d : Int) : K) - ((m * prd f a b c d : Int) : K) * R) (8 * v + 17) := (inferInstance : BK (((f * l * m * (a * d - b * c) : Int) : K) - ((m * (a * c + f * b * d) : Int) : K) * R) _).mono (by omega)
  have b3 : BK (((f * l * m * crs a b c d : Int) : K) + ((m * prd f a b c d : Int) : K) * R - (((-l * prd f a b c d : Int) : K) + ((crs a b c d : Int) : K) * R) * E) (4 * v + 9) :=
    (inferInstance : BK (((f * l * m * (a * d - b * c) : Int) : K) + ((m * (a * c + f * b * d) : Int) : K) * R - (((-l * (a * c + f * b * d) : Int) : K) + ((a * d - b * c : Int) : K) * R) * E) _).mono (by omega)
  have d1 : BI (sqr f a b l) (2 * v + 6) := (inferInstance : BI (f * (a * a + f * b * b - l * l)) _).mono (by omega)
  have d2 : BI (sqr f c d m) (2 * v + 6) := (inferInstance : BI (f * (c * c + f * d * d - m * m)) _).mono (by omega)
  have p1 : BI (f * l * m * crs a b c d) (4 * v + 3) := (inferInstance : BI (f * l * m * (a * d - b * c)) _).mono (by omega)
  have p2 : BI (m * prd f a b c d) (3 * v + 3) := (inferInstance : BI (m * (a * c + f * b * d)) _).mono (by omega)
  have p3 : BI (-l * prd f a b c d) (3 * v + 3) := (inferInstance : BI (-l * (a * c + f * b * d)) _).mono (by omega)
  have p4 : BI (crs a b c d) (2 * v + 1) := (inferInstance : BI (a * d - b * c) _).mono (by omega)
  generalize f * l * m * crs a b c d = p at *
  generalize m * prd f a b c d = q at *
  generalize -l * prd f a b c d = s at *
  generalize crs a b c d = t at *
  have eR := h.e
  have eE := k.e
  generalize sqr f a b l = D at *
  generalize sqr f c d m = O at *
  have b2 : BK (((p * p + q * q * D - O * (s * s + t * t * D) : Int) : K) - ((2 * (p * q - O * s * t) : Int) : K) * R) (8 * v + 17) :=
    (inferInstance : BK (((p * p + q * q * D - O * (s * s + t * t * D) : Int) : K) - ((2 * (p * q - O * s * t) : Int) : K) * R) _).mono (by omega)
  have := sep4 eR eE hS b1 b2 b3
  rw [show 12 * v + 26 = 4 * v + 9 + (8 * v + 17) by omega]
  exact this
theorem far {S N err : K} {k n w : Nat} (hS : 1 ≤ S * P k) (hn : k + w + 1 ≤ n) (hN : 1 ≤ N) (he : BK err w) : 0 < N * (S * P n) + err := by
  have o := one_pos (K := K)
  have e : (P n : K) = P k * P (n - k) := by rw [← P_add, show k + (n - k) = n by omega]
  have m := P_mono (K := K) (show w + 1 ≤ n - k by omega)
  rw [P_succ] at m
  have g := P_ge (K := K) w
  have g2 := P_ge (K := K) (n - k)
  have h1 := nn_mul (a := S * P k - 1) (b := P (n - k)) (by grind) (by grind)
  have h2 : P (n - k) ≤ S * P n := by rw [e]; grind
  have h3 := nn_mul (a := N - 1) (b := S * P n) (by grind) (by grind)
  have := he.lo
  grind
theorem pos_of_mul {x y : K} (hx : 0 < x) (h : 0 < x * y) : 0 < y := by
  by_cases c : 0 < y
  · exact c
  · have := nn_mul (Std.le_of_lt hx) (b := -y) (by grind)
    grind
theorem mid_k {F S T N1 N2 x1 y1 x2 y2 d1 e1 d2 e2 : K} (hS : S = X * V - W * Y) (E1 : x1 * N1 = X * T + d1) (E2 : y1 * F * N1 = W * T + e1) (E3 : x2 * N2 = Y * T + d2) (E4 : y2 * F * N2 = V * T + e2) :
    N1 * N2 * (X * (F * (y1 + y2)) - W * (x1 + x2)) = N1 * (S * T) + (N2 * (X * e1 - W * d1) + N1 * (X * e2 - W * d2)) ∧
    N1 * N2 * ((x1 + x2) * V - (F * (y1 + y2)) * Y) = N2 * (S * T) + (N1 * (d2 * V - e2 * Y) + N2 * (d1 * V - e1 * Y)) := by
  subst hS
  constructor
  · have a1 : N1 * N2 * (X * (F * (y1 + y2)) - W * (x1 + x2)) = N2 * (X * (y1 * F * N1) - W * (x1 * N1)) + N1 * (X * (y2 * F * N2) - W * (x2 * N2)) := by grind
    rw [a1, E1, E2, E3, E4]
    grind
  · have a1 : N1 * N2 * ((x1 + x2) * V - (F * (y1 + y2)) * Y) = N2 * ((x1 * N1) * V - (y1 * F * N1) * Y) + N1 * ((x2 * N2) * V - (y2 * F * N2) * Y) := by grind
    rw [a1, E1, E2, E3, E4]
    grind
end
end Geo

namespace Geo
open Lean.Grind
section
variable {K : Type} [OF K] {f a b l c d m : Int} {R X W E Y V : K} {v n : Nat} {x1 y1 x2 y2 : Int}
def qv (K : Type) [OF K] (f x y : Int) : K × K := ((x : K), (f : K) * (y : K))
theorem bk_delta {N z : K} {w : Nat} (hN : BK N w) (h1 : -(N + N) ≤ z) (h2 : z ≤ N + N) : BK z (w + 1) := by
  have := hN.hi
  exact ⟨by rw [P_succ]; grind, by rw [P_succ]; grind⟩
theorem bk_eps {F N z : K} {w u : Nat} (hN : BK N w) (hF : BK F u) (h1 : -(F * (N + N)) ≤ z) (h2 : z ≤ F * (N + N)) : BK z (u + (w + 1)) := by
  have b : BK (F * (N + N)) (u + (max w w + 1)) := inferInstance
  have b := b.mono (w := u + (w + 1)) (by omega)
  have := b.lo
  have := b.hi
  exact ⟨by grind, by grind⟩
theorem Sg.pos_iff {x : K} {s : Int} (h : Sg x s) : (s = 1 ↔ 0 < x) ∧ (s = 0 ↔ x = 0) ∧ (s = -1 ↔ x < 0) := by
  unfold Sg at h
  grind
theorem core (hA : AngG f a b l) (hH : AngG f c d m) (h : Pl f a b l R X W) (k : Pl f c d m E Y V) (ba : BI a v) (bb : BI b v) (bl : BI l v) (bc : BI c v) (bd : BI d v) (bm : BI m v) (hn : 18 * v + 42 ≤ n)
    (nw : NearW f a b l n x1 y1) (nw' : NearW f c d m n x2 y2) :
    (sn f a b l c d m = 1 → 0 < crK (X, W) (qv K f (x1 + x2) (y1 + y2)) ∧ 0 < crK (qv K f (x1 + x2) (y1 + y2)) (Y, V)) ∧
    (sn f a b l c d m = -1 → 0 < crK (X, W) (qv K f (-(x1 + x2)) (-(y1 + y2))) ∧ 0 < crK (qv K f (-(x1 + x2)) (-(y1 + y2))) (Y, V)) ∧
    (sn f a b l c d m = 0 → cs f a b l c d m = 1 → dtK (f : K) (qv K f (-x1) (-y1)) (X, W) < 0 ∧ dtK (f : K) (qv K f (-x1) (-y1)) (Y, V) < 0) ∧
    (sn f a b l c d m = 0 → cs f a b l c d m ≠ 1 → 0 < crK (X, W) (qv K f (-f * y1) x1) ∧ 0 < crK (qv K f (-f * y1) x1) (Y, V)) := by
  have s1 := (sn_ok h k).pos_iff
  have s2 := (cs_ok h k).pos_iff
  have z1 := Pl.nz hA h
  have z2 := Pl.nz hH k
  have sep := sep_sn hA hH h k ba bb bl bc bd bm
  obtain ⟨bR, bX, bW, bN⟩ := bk_all hA h ba bb bl
  obtain ⟨bE, bY, bV, bM⟩ := bk_all hH k bc bd bm
  obtain ⟨⟨k1, k2⟩, k3, k4⟩ := near_k hA h nw
  obtain ⟨⟨k5, k6⟩, k7, k8⟩ := near_k hH k nw'
  have bf := bi_f hA
  have bF : BK (f : K) 2 := inferInstance
  have hN := cast_le (K := K) (show 1 ≤ a * a + f * b * b by have := hA.nsq.1; omega)
  have hM := cast_le (K := K) (show 1 ≤ c * c + f * d * d by have := hH.nsq.1; omega)
  have hF := cast_le (K := K) hA.f1
  have i1 : (((1 : Int)) : K) = 1 := by grind
  have o := one_pos (K := K)
  rw [i1] at hN hM hF
  have nrm := h.norm
  generalize ((a * a + f * b * b : Int) : K) = N at *
  generalize ((c * c + f * d * d : Int) : K) = M at *
  have bd1 := bk_delta bN k1 k2
  have be1 := bk_eps bN bF k3 k4
  have bd2 := bk_delta bM k5 k6
  have be2 := bk_eps bM bF k7 k8
  clear k1 k2 k3 k4 k5 k6 k7 k8
  generalize sn f a b l c d m = s at *
  generalize cs f a b l c d m = t at *
  have eX : ((x1 + x2 : Int) : K) = (x1 : K) + (x2 : K) := by grind
  have eY : ((y1 + y2 : Int) : K) = (y1 : K) + (y2 : K) := by grind
  have eX' : ((-(x1 + x2) : Int) : K) = -((x1 : K) + (x2 : K)) := by grind
  have eY' : ((-(y1 + y2) : Int) : K) = -((y1 : K) + (y2 : K)) := by grind
  have ex' : ((-x1 : Int) : K) = -(x1 : K) := by grind
  have ey' : ((-y1 : Int) : K) = -(y1 : K) := by grind
  have ef' : ((-f * y1 : Int) : K) = -((f : K) * (y1 : K)) := by grind
  unfold qv
  simp only [crK, dtK, eX, eY, eX', eY', ex', ey', ef']
  clear eX eY eX' eY' ex' ey' ef'
  generalize (x1 : K) = p1 at *
  generalize (y1 : K) = q1 at *
  generalize (x2 : K) = p2 at *
  generalize (y2 : K) = q2 at *
  generalize (f : K) = F at *
  have E1 : p1 * N = X * P n + (p1 * N - X * P n) := by grind
  have E2 : q1 * F * N = W * P n + (q1 * F * N - W * P n) := by grind
  have E3 : p2 * M = Y * P n + (p2 * M - Y * P n) := by grind
  have E4 : q2 * F * M = V * P n + (q2 * F * M - V * P n) := by grind
  generalize hd1 : p1 * N - X * P n = d1 at *
  generalize he1 : q1 * F * N - W * P n = e1 at *
  generalize hd2 : p2 * M - Y * P n = d2 at *
  generalize he2 : q2 * F * M - V * P n = e2 at *
  obtain ⟨m1, m2⟩ := mid_k (S := X * V - W * Y) rfl E1 E2 E3 E4
  have bb1 : BK (M * (X * e1 - W * d1) + N * (X * e2 - W * d2)) (6 * v + 15) := (inferInstance : BK (M * (X * e1 - W * d1) + N * (X * e2 - W * d2)) _).mono (by omega)
  have bb2 : BK (N * (d2 * V - e2 * Y) + M * (d1 * V - e1 * Y)) (6 * v + 15) := (inferInstance : BK (N * (d2 * V - e2 * Y) + M * (d1 * V - e1 * Y)) _).mono (by omega)
  have NM := pos_mul (a := N) (b := M) (by grind) (by grind)
  -- the dot with what is near
  have dot : 0 < F * X * p1 + W * (F * q1) := by
    refine pos_of_mul (x := N) (by grind) ?_
    have e : N * (F * X * p1 + W * (F * q1)) = 1 * ((F * N * N) * P n) + (F * X * d1 + W * e1) := by
      have : N * (F * X * p1 + W * (F * q1)) = F * X * (p1 * N) + W * (q1 * F * N) := by grind
      rw [this, E1, E2]
      have : F * X * (X * P n + d1) + W * (W * P n + e1) = (F * X * X + W * W) * P n + (F * X * d1 + W * e1) := by grind
      rw [this, nrm]
      grind
    rw [e]
    have be : BK (F * X * d1 + W * e1) (4 * v + 11) := (inferInstance : BK (F * X * d1 + W * e1) _).mono (by omega)
    refine far (k := 0) ?_ (by omega) (by grind) be
    rw [P_zero]
    have g1 := nn_mul (a := F - 1) (b := N * N) (by grind) (nn_sq N)
    have g2 := nn_mul (a := N - 1) (b := N + 1) (by grind) (by grind)
    grind
  -- on one line
  have line : X * V - W * Y = 0 → (F * N * N) * Y = (F * X * Y + W * V) * X ∧ (F * N * N) * V = (F * X * Y + W * V) * W := by
    intro z
    rw [← nrm]
    constructor <;> grind
  have FNN : 0 < F * N * N := pos_mul (pos_mul (by grind) (by grind)) (by grind)
  refine ⟨fun hs => ?_, fun hs => ?_, fun hs ht => ?_, fun hs ht => ?_⟩
  · have hp := s1.1.1 hs
    have hsep : 1 ≤ (X * V - W * Y) * P (12 * v + 26) := by
      rcases sep (by grind) with g | g
      · exact g
      · exfalso
        have := nn_mul (Std.le_of_lt hp) (b := P (12 * v + 26)) (by have := P_ge (K := K) (12 * v + 26); grind)
        grind
    have f1 := far (n := n) (w := 6 * v + 15) hsep (by omega) hN bb1
    have f2 := far (n := n) (w := 6 * v + 15) hsep (by omega) hM bb2
    rw [← m1] at f1
    rw [← m2] at f2
    have r1 := pos_of_mul NM f1
    have r2 := pos_of_mul NM f2
    exact ⟨r1, r2⟩
  · have hp := s1.2.2.1 hs
    have hsep : 1 ≤ (-(X * V - W * Y)) * P (12 * v + 26) := by
      rcases sep (by grind) with g | g
      · exfalso
        have := nn_mul (a := -(X * V - W * Y)) (b := P (12 * v + 26)) (by grind) (by have := P_ge (K := K) (12 * v + 26); grind)
        grind
      · exact g
    have bb1' : BK (-(M * (X * e1 - W * d1) + N * (X * e2 - W * d2))) (6 * v + 15) := ⟨by have := bb1.hi; grind, by have := bb1.lo; grind⟩
    have bb2' : BK (-(N * (d2 * V - e2 * Y) + M * (d1 * V - e1 * Y))) (6 * v + 15) := ⟨by have := bb2.hi; grind, by have := bb2.lo; grind⟩
    have f1 := far (n := n) (w := 6 * v + 15) hsep (by omega) hN bb1'
    have f2 := far (n := n) (w := 6 * v + 15) hsep (by omega) hM bb2'
    have r1 := pos_of_mul (x := N * M) (y := -(X * (F * (q1 + q2)) - W * (p1 + p2))) NM (by grind)
    have r2 := pos_of_mul (x := N * M) (y := -((p1 + p2) * V - (F * (q1 + q2)) * Y)) NM (by grind)
    exact ⟨by grind, by grind⟩
  · have z := s1.2.1.1 hs
    have tp := s2.1.1 ht
    obtain ⟨l1, l2⟩ := line z
    have g1 : F * -p1 * X + F * -q1 * W < 0 := by grind
    refine ⟨g1, ?_⟩
    have g2 := pos_mul tp dot
    have g3 := pos_of_mul (x := F * N * N) (y := -(F * -p1 * Y + F * -q1 * V)) FNN (by
      have : F * N * N * (-(F * -p1 * Y + F * -q1 * V)) = F * p1 * (F * N * N * Y) + F * q1 * (F * N * N * V) := by grind
      rw [this, l1, l2]
      grind)
    grind
  · have z := s1.2.1.1 hs
    have tn : F * X * Y + W * V < 0 := by
      by_cases c0 : F * X * Y + W * V = 0
      · exfalso
        obtain ⟨l1, l2⟩ := line z
        rw [c0] at l1 l2
        have y0 : Y = 0 := by
          rcases mul_zero' (a := F * N * N) (b := Y) (by grind) with g | g
          · grind
          · exact g
        have v0 : V = 0 := by
          rcases mul_zero' (a := F * N * N) (b := V) (by grind) with g | g
          · grind
          · exact g
        rcases z2 with g | g
        · exact g y0
        · exact g v0
      · have := mt s2.1.2 ht
        grind
    obtain ⟨l1, l2⟩ := line z
    refine ⟨by grind, ?_⟩
    have g2 := pos_mul (a := -(F * X * Y + W * V)) (by grind) dot
    refine pos_of_mul (x := F * N * N) FNN ?_
    have : F * N * N * (-(F * q1) * V - F * p1 * Y) = -(F * q1) * (F * N * N * V) - F * p1 * (F * N * N * Y) := by grind
    rw [this, l1, l2]
    grind
end
end Geo

namespace Geo
open Lean.Grind
variable {f a b l c d m : Int}
theorem AngG.sq_nn (h : AngG f a b l) : 0 < sqr f a b l := by
  have := h.n
  exact Int.mul_pos (by have := h.f1; omega) (by omega)
theorem pl_of {K : Type} [OF K] (h : AngG f a b l) {r : K} (h0 : 0 ≤ r) (e : r * r = (((sqr f a b l).toNat : Int) : K)) : Pl f a b l r ((l : K) * (a : K) + (b : K) * r) ((f : K) * (l : K) * (b : K) - (a : K) * r) := by
  refine ⟨h0, ?_, rfl, rfl⟩
  have := h.sq_nn
  rw [e, show ((sqr f a b l).toNat : Int) = sqr f a b l by omega]
theorem two_pl {P : Prop} (h1 : AngG f a b l) (h2 : AngG f c d m) (k : ∀ (K : Type) [OF K] (R X W E Y V : K), Pl f a b l R X W → Pl f c d m E Y V → nz (X, W) → nz (Y, V) → P) : P := by
  obtain ⟨K, oK, h⟩ := exists_field [(sqr f a b l).toNat, (sqr f c d m).toNat]
  obtain ⟨r, r0, r1⟩ := h (sqr f a b l).toNat (by simp)
  obtain ⟨e, e0, e1⟩ := h (sqr f c d m).toNat (by simp)
  exact k K r _ _ e _ _ (pl_of h1 r0 r1) (pl_of h2 e0 e1) (Pl.nz h1 (pl_of h1 r0 r1)) (Pl.nz h2 (pl_of h2 e0 e1))
theorem three_pl {p q s : Int} {P : Prop} (h0 : AngG f p q s) (h1 : AngG f a b l) (h2 : AngG f c d m) (k : ∀ (K : Type) [OF K] (F Z U R X W E Y V : K), Pl f p q s F Z U → Pl f a b l R X W → Pl f c d m E Y V → nz (Z, U) → nz (X, W) → nz (Y, V) → P) : P := by
  obtain ⟨K, oK, h⟩ := exists_field [(sqr f p q s).toNat, (sqr f a b l).toNat, (sqr f c d m).toNat]
  obtain ⟨u, u0, u1⟩ := h (sqr f p q s).toNat (by simp)
  obtain ⟨r, r0, r1⟩ := h (sqr f a b l).toNat (by simp)
  obtain ⟨e, e0, e1⟩ := h (sqr f c d m).toNat (by simp)
  exact k K u _ _ r _ _ e _ _ (pl_of h0 u0 u1) (pl_of h1 r0 r1) (pl_of h2 e0 e1) (Pl.nz h0 (pl_of h0 u0 u1)) (Pl.nz h1 (pl_of h1 r0 r1)) (Pl.nz h2 (pl_of h2 e0 e1))
theorem fpos {K : Type} [OF K] (h : AngG f a b l) : (0 : K) < (f : K) := cast_pos (by have := h.f1; omega)
theorem one_comm (h1 : AngG f a b l) (h2 : AngG f c d m) : one f a b l c d m = one f c d m a b l :=
  two_pl h1 h2 fun K _ R X W E Y V k1 k2 _ _ => by
    rw [Bool.eq_iff_iff, one_iff k1 k2, one_iff k2 k1]
    exact ⟨same_symm, same_symm⟩
theorem one_refl (h1 : AngG f a b l) : one f a b l a b l = true :=
  two_pl h1 h1 fun K _ R X W E Y V k1 k2 z _ => by
    rw [one_iff k1 k1]
    exact same_refl (fpos h1) z
theorem bef_not (h1 : AngG f a b l) (h2 : AngG f c d m) (h : one f a b l c d m = false) : bef f c d m a b l = !bef f a b l c d m :=
  two_pl h1 h2 fun K _ R X W E Y V k1 k2 z1 z2 => by
    have hs : ¬ same (f : K) (X, W) (Y, V) := by rw [← one_iff k1 k2, h]; decide
    have := bef_tri (fpos h1) z1 z2 hs
    rw [← bef_iff k1 k2 z1 z2, ← bef_iff k2 k1 z2 z1] at this
    generalize bef f a b l c d m = u at *
    generalize bef f c d m a b l = v at *
    cases u <;> cases v <;> simp_all
def half (f a b l : Int) : Int := if 0 < sg f a b l 0 1 0 ∨ (sg f a b l 0 1 0 = 0 ∧ 0 < sg f a b l 1 0 0) then 0 else 1
def lbef (f a b l c d m : Int) : Bool := if half f a b l = half f c d m then decide (0 < sn f a b l c d m) else decide (half f a b l < half f c d m)
theorem half_up {K : Type} [OF K] {R X W : K} (h : Pl f a b l R X W) : (half f a b l = 0 ∧ up (X, W)) ∨ (half f a b l = 1 ∧ ¬ up (X, W)) := by
  have h1 := h.sgW
  have h2 := h.sgX
  unfold half up
  generalize sg f a b l 0 1 0 = s at *
  generalize sg f a b l 1 0 0 = t at *
  unfold Sg at *
  grind
theorem lbef_eq (h1 : AngG f a b l) (h2 : AngG f c d m) : lbef f a b l c d m = bef f a b l c d m :=
  two_pl h1 h2 fun K _ R X W E Y V k1 k2 z1 z2 => by
    have e := bef_iff k1 k2 z1 z2
    have u1 := half_up k1
    have u2 := half_up k2
    have s := (sn_ok k1 k2).pos_iff
    have s' := sn_ok k1 k2
    rw [Bool.eq_iff_iff, e]
    unfold lbef befK
    simp only [crK]
    generalize half f a b l = u at *
    generalize half f c d m = v at *
    generalize sn f a b l c d m = w at *
    unfold Sg at s'
    rcases u1 with ⟨rfl, u1⟩ | ⟨rfl, u1⟩ <;> rcases u2 with ⟨rfl, u2⟩ | ⟨rfl, u2⟩ <;> simp [u1, u2] <;> grind
def lbtw (f a b l c d m x y z : Int) : Bool := if one f a b l c d m = true ∨ one f a b l x y z = true then false else if one f c d m x y z = true then true else
  if lbef f c d m x y z = true then lbef f c d m a b l && lbef f a b l x y z else lbef f c d m a b l || lbef f a b l x y z
theorem lbtw_eq {x y z : Int} (h1 : AngG f a b l) (h2 : AngG f c d m) (h3 : AngG f x y z) : lbtw f a b l c d m x y z = btw f a b l c d m x y z := by
  unfold lbtw btw
  rw [lbef_eq h2 h3, lbef_eq h2 h1, lbef_eq h1 h3]
theorem btw_point {x y z : Int} (h1 : AngG f a b l) (h2 : AngG f c d m) (e : one f a b l c d m = true) : btw f x y z c d m a b l = !(one f x y z a b l || one f x y z c d m) := by
  unfold btw
  rw [one_comm h2 h1, e]
  generalize one f x y z a b l = u
  generalize one f x y z c d m = v
  cases u <;> cases v <;> simp
theorem btw_ways {x y z : Int} (h0 : AngG f x y z) (h1 : AngG f a b l) (h2 : AngG f c d m) (e : one f a b l c d m = false) :
    (btw f x y z a b l c d m || btw f x y z c d m a b l) = !(one f x y z a b l || one f x y z c d m) ∧ (btw f x y z a b l c d m && btw f x y z c d m a b l) = false := by
  have b1 := bef_not h1 h2 e
  have e' : one f c d m a b l = false := by rw [one_comm h2 h1]; exact e
  unfold btw
  rw [e, e']
  cases c1 : one f x y z a b l with
  | true => simp
  | false =>
    cases c2 : one f x y z c d m with
    | true => simp
    | false =>
      have b2 := bef_not h0 h1 c1
      have b3 := bef_not h0 h2 c2
      rw [b1, b2, b3]
      generalize bef f a b l c d m = u
      generalize bef f x y z a b l = v
      generalize bef f x y z c d m = w
      cases u <;> cases v <;> cases w <;> simp
abbrev wys (f x1 y1 x2 y2 : Int) : List (Int × Int) := [(x1 + x2, y1 + y2), (-(x1 + x2), -(y1 + y2)), (-f * y1, x1), (-x1, -y1)]
theorem place_ang {w1 w2 g p q : Int} (hf : 1 ≤ f) (hf3 : f ≤ 3) (hw : ¬ (w1 = 0 ∧ w2 = 0)) (hg : 0 < g) (e1 : g * p = -f * w2) (e2 : g * q = w1) : AngG f p q 0 := by
  refine ⟨hf, hf3, ?_⟩
  have h0 : ¬ (p = 0 ∧ q = 0) := by
    rintro ⟨rfl, rfl⟩
    apply hw
    refine ⟨by omega, ?_⟩
    have : -f * w2 = 0 := by omega
    rcases Int.mul_eq_zero.1 this with h | h <;> omega
  have h1 := abs_le_sq p
  have h2 := abs_le_sq q
  have hp : 0 ≤ p * p := by omega
  have hq : 0 ≤ q * q := by omega
  have e : f * q * q = f * (q * q) := Int.mul_assoc _ _ _
  have h3 := Int.mul_le_mul_of_nonneg_right (a := 1) (b := f) (c := q * q) hf hq
  by_cases c : p = 0
  · have : q ≠ 0 := fun h => h0 ⟨c, h⟩
    have : 0 < q * q := by
      rcases Int.lt_or_gt_of_ne this with h | h
      · exact Int.mul_pos_of_neg_of_neg h h
      · exact Int.mul_pos h h
    omega
  · have : 0 < p * p := by
      rcases Int.lt_or_gt_of_ne c with h | h
      · exact Int.mul_pos_of_neg_of_neg h h
      · exact Int.mul_pos h h
    omega
theorem place_pl {K : Type} [OF K] {w1 w2 g p q : Int} {F Z U : K} (h : Pl f p q 0 F Z U) (e1 : g * p = -f * w2) (e2 : g * q = w1) : (g : K) * Z = (w1 : K) * F ∧ (g : K) * U = (f : K) * (w2 : K) * F := by
  have i1 : ((g * p : Int) : K) = ((-f * w2 : Int) : K) := by rw [e1]
  have i2 : ((g * q : Int) : K) = (w1 : K) := by rw [e2]
  have i3 : ((g * p : Int) : K) = (g : K) * (p : K) := by grind
  have i4 : ((g * q : Int) : K) = (g : K) * (q : K) := by grind
  have i5 : ((-f * w2 : Int) : K) = -((f : K) * (w2 : K)) := by grind
  rw [i3, i5] at i1
  rw [i4] at i2
  have hx := h.x
  have hw := h.w
  have z : (((0 : Int)) : K) = 0 := by grind
  rw [z] at hx hw
  rw [hx, hw, ← i2]
  constructor
  · grind
  · have : (f : K) * (w2 : K) * F = -((g : K) * (p : K)) * F := by rw [i1]; grind
    rw [this]
    grind
theorem ways_ok {v n : Nat} {x1 y1 x2 y2 : Int} (hA : AngG f a b l) (hH : AngG f c d m) (ba : BI a v) (bb : BI b v) (bl : BI l v) (bc : BI c v) (bd : BI d v) (bm : BI m v) (hn : 18 * v + 42 ≤ n)
    (nw : NearW f a b l n x1 y1) (nw' : NearW f c d m n x2 y2) :
    ∃ w ∈ wys f x1 y1 x2 y2, ¬ (w.1 = 0 ∧ w.2 = 0) ∧ ∀ g p q : Int, 0 < g → g * p = -f * w.2 → g * q = w.1 → btw f p q 0 a b l c d m = true := by
  -- the way that is due, by the signs
  have co := fun (K : Type) [OF K] (R X W E Y V : K) (h : Pl f a b l R X W) (k : Pl f c d m E Y V) => core hA hH h k ba bb bl bc bd bm hn nw nw'
  have tri : sn f a b l c d m = 1 ∨ sn f a b l c d m = -1 ∨ sn f a b l c d m = 0 := two_pl hA hH fun K _ R X W E Y V k1 k2 _ _ => by
    have := sn_ok k1 k2
    unfold Sg at this
    grind
  have cross : ∀ w1 w2 : Int, (∀ (K : Type) [OF K] (R X W E Y V : K), Pl f a b l R X W → Pl f c d m E Y V → 0 < crK (X, W) (qv K f w1 w2) ∧ 0 < crK (qv K f w1 w2) (Y, V)) →
      ¬ (w1 = 0 ∧ w2 = 0) ∧ ∀ g p q : Int, 0 < g → g * p = -f * w2 → g * q = w1 → btw f p q 0 a b l c d m = true := by
    intro w1 w2 hc
    have hw : ¬ (w1 = 0 ∧ w2 = 0) := by
      rintro ⟨rfl, rfl⟩
      exact two_pl hA hH fun K _ R X W E Y V k1 k2 _ _ => by
        have := (hc K R X W E Y V k1 k2).1
        unfold qv at this
        simp only [crK] at this
        grind
    refine ⟨hw, fun g p q hg e1 e2 => ?_⟩
    exact three_pl (place_ang hA.f1 hA.f3 hw hg e1 e2) hA hH fun K _ F Z U R X W E Y V k0 k1 k2 z0 z1 z2 => by
      rw [btw_iff k0 k1 k2 z0 z1 z2]
      obtain ⟨c1, c2⟩ := hc K R X W E Y V k1 k2
      obtain ⟨p1, p2⟩ := place_pl k0 e1 e2
      have hF := root_pos k0.hR k0.e (place_ang hA.f1 hA.f3 hw hg e1 e2).sq_nn
      have hgp := cast_pos (K := K) hg
      unfold qv at c1 c2
      simp only [crK] at c1 c2
      refine btw_of z1 z0 z2 ?_ ?_
      · refine pos_of_mul hgp ?_
        have := pos_mul hF c1
        simp only [crK]
        have e : (g : K) * (X * U - W * Z) = X * ((g : K) * U) - W * ((g : K) * Z) := by grind
        rw [e, p1, p2]
        grind
      · refine pos_of_mul hgp ?_
        have := pos_mul hF c2
        simp only [crK]
        have e : (g : K) * (Z * V - U * Y) = ((g : K) * Z) * V - ((g : K) * U) * Y := by grind
        rw [e, p1, p2]
        grind
  rcases tri with s | s | s
  · exact ⟨(x1 + x2, y1 + y2), by simp, cross _ _ fun K _ R X W E Y V k1 k2 => (co K R X W E Y V k1 k2).1 s⟩
  · exact ⟨(-(x1 + x2), -(y1 + y2)), by simp, cross _ _ fun K _ R X W E Y V k1 k2 => (co K R X W E Y V k1 k2).2.1 s⟩
  · by_cases t : cs f a b l c d m = 1
    · refine ⟨(-x1, -y1), by simp, ?_, fun g p q hg e1 e2 => ?_⟩
      · rintro ⟨h1, h2⟩
        have h1 : -x1 = 0 := h1
        have h2 : -y1 = 0 := h2
        exact two_pl hA hH fun K _ R X W E Y V k1 k2 _ _ => by
          have := ((co K R X W E Y V k1 k2).2.2.1 s t).1
          unfold qv at this
          rw [h1, h2] at this
          simp only [dtK] at this
          grind
      · have hw : ¬ (-x1 = 0 ∧ -y1 = 0) := by
          rintro ⟨h1, h2⟩
          exact two_pl hA hH fun K _ R X W E Y V k1 k2 _ _ => by
            have := ((co K R X W E Y V k1 k2).2.2.1 s t).1
            unfold qv at this
            rw [h1, h2] at this
            simp only [dtK] at this
            grind
        exact three_pl (place_ang hA.f1 hA.f3 hw hg e1 e2) hA hH fun K _ F Z U R X W E Y V k0 k1 k2 z0 z1 z2 => by
          rw [btw_iff k0 k1 k2 z0 z1 z2]
          obtain ⟨c1, c2⟩ := (co K R X W E Y V k1 k2).2.2.1 s t
          obtain ⟨p1, p2⟩ := place_pl k0 e1 e2
          have hF := root_pos k0.hR k0.e (place_ang hA.f1 hA.f3 hw hg e1 e2).sq_nn
          have hgp := cast_pos (K := K) hg
          unfold qv at c1 c2
          simp only [dtK] at c1 c2
          have key : ∀ {X W : K}, (f : K) * ((-x1 : Int) : K) * X + (f : K) * ((-y1 : Int) : K) * W < 0 → dtK (f : K) (Z, U) (X, W) < 0 := by
            intro X W hc
            have h1 := pos_mul hF (b := -((f : K) * ((-x1 : Int) : K) * X + (f : K) * ((-y1 : Int) : K) * W)) (by grind)
            have h2 : 0 < -dtK (f : K) (Z, U) (X, W) := by
              refine pos_of_mul hgp ?_
              simp only [dtK]
              have e : (g : K) * -((f : K) * Z * X + U * W) = -((f : K) * ((g : K) * Z) * X + ((g : K) * U) * W) := by grind
              rw [e, p1, p2]
              grind
            grind
          refine ⟨fun h => ?_, fun h => ?_, .inl ?_⟩
          · have := key c1
            have := h.2
            grind
          · have := key c2
            have := h.2
            grind
          · have s1 := (sn_ok k1 k2).pos_iff
            have s2 := (cs_ok k1 k2).pos_iff
            exact ⟨s1.2.1.1 s, s2.1.1 t⟩
    · exact ⟨(-f * y1, x1), by simp, cross _ _ fun K _ R X W E Y V k1 k2 => (co K R X W E Y V k1 k2).2.2.2 s t⟩
end Geo

namespace Geo
open Lean.Grind
variable {f : Int}
def upI (w1 w2 : Int) : Prop := 0 < w2 ∨ (w2 = 0 ∧ 0 < w1)
theorem cast_iff {K : Type} [OF K] (i : Int) : ((0 : K) < (i : K) ↔ 0 < i) ∧ ((i : K) = 0 ↔ i = 0) := by
  have h := (sg_int (K := K) i)
  rcases Int.lt_trichotomy i 0 with c | c | c
  · rw [Int.sign_eq_neg_one_of_neg c] at h
    unfold Sg at h
    grind
  · subst c
    have e : (((0 : Int)) : K) = 0 := by grind
    rw [e]
    grind
  · rw [Int.sign_eq_one_of_pos c] at h
    unfold Sg at h
    grind
theorem mul_sgn {K : Type} [OF K] {u x y z : K} (hu : 0 < u) (hz : 0 < z) (e : u * x = z * y) : (0 < x ↔ 0 < y) ∧ (x = 0 ↔ y = 0) := by
  have f1 : 0 < x → 0 < u * x := fun h => pos_mul hu h
  have f2 : 0 < y → 0 < z * y := fun h => pos_mul hz h
  have f3 : x < 0 → 0 < u * (-x) := fun h => pos_mul hu (by grind)
  have f4 : y < 0 → 0 < z * (-y) := fun h => pos_mul hz (by grind)
  have f5 : x = 0 → u * x = 0 := fun h => by rw [h]; grind
  have f6 : y = 0 → z * y = 0 := fun h => by rw [h]; grind
  grind
section
variable {g p q w1 w2 g' p' q' v1 v2 : Int}
theorem ways_two (hA : AngG f p q 0) (hH : AngG f p' q' 0) (hg : 0 < g) (e1 : g * p = -f * w2) (e2 : g * q = w1) (hg' : 0 < g') (e1' : g' * p' = -f * v2) (e2' : g' * q' = v1) :
    (one f p q 0 p' q' 0 = true ↔ (w1 * v2 - w2 * v1 = 0 ∧ 0 < w1 * v1 + f * (w2 * v2))) ∧
    (bef f p q 0 p' q' 0 = true ↔ ((upI w1 w2 ∧ ¬ upI v1 v2) ∨ ((upI w1 w2 ↔ upI v1 v2) ∧ 0 < w1 * v2 - w2 * v1))) :=
  two_pl hA hH fun K _ R X W E Y V k1 k2 z1 z2 => by
    rw [one_iff k1 k2, bef_iff k1 k2 z1 z2]
    obtain ⟨a1, a2⟩ := place_pl k1 e1 e2
    obtain ⟨b1, b2⟩ := place_pl k2 e1' e2'
    have hR := root_pos k1.hR k1.e hA.sq_nn
    have hE := root_pos k2.hR k2.e hH.sq_nn
    have G := cast_pos (K := K) hg
    have G' := cast_pos (K := K) hg'
    have F := fpos (K := K) hA
    have gg := pos_mul G G'
    have zz := pos_mul F (pos_mul hR hE)
    have c1 := mul_sgn (x := X * V - W * Y) (y := ((w1 * v2 - w2 * v1 : Int) : K)) gg zz (by
      have : ((w1 * v2 - w2 * v1 : Int) : K) = (w1 : K) * (v2 : K) - (w2 : K) * (v1 : K) := by grind
      rw [this]
      have : (g : K) * (g' : K) * (X * V - W * Y) = ((g : K) * X) * ((g' : K) * V) - ((g : K) * W) * ((g' : K) * Y) := by grind
      rw [this, a1, a2, b1, b2]
      grind)
    have c2 := mul_sgn (x := (f : K) * X * Y + W * V) (y := ((w1 * v1 + f * (w2 * v2) : Int) : K)) gg zz (by
      have : ((w1 * v1 + f * (w2 * v2) : Int) : K) = (w1 : K) * (v1 : K) + (f : K) * ((w2 : K) * (v2 : K)) := by grind
      rw [this]
      have : (g : K) * (g' : K) * ((f : K) * X * Y + W * V) = (f : K) * ((g : K) * X) * ((g' : K) * Y) + ((g : K) * W) * ((g' : K) * V) := by grind
      rw [this, a1, a2, b1, b2]
      grind)
    have i1 := cast_iff (K := K) (w1 * v2 - w2 * v1)
    have i2 := cast_iff (K := K) (w1 * v1 + f * (w2 * v2))
    have u1 := mul_sgn (x := X) (y := (w1 : K)) G hR (by rw [a1]; grind)
    have u2 := mul_sgn (x := W) (y := (w2 : K)) G (pos_mul F hR) (by rw [a2]; grind)
    have u3 := mul_sgn (x := Y) (y := (v1 : K)) G' hE (by rw [b1]; grind)
    have u4 := mul_sgn (x := V) (y := (v2 : K)) G' (pos_mul F hE) (by rw [b2]; grind)
    have j1 := cast_iff (K := K) w1
    have j2 := cast_iff (K := K) w2
    have j3 := cast_iff (K := K) v1
    have j4 := cast_iff (K := K) v2
    have s1 : up (X, W) ↔ upI w1 w2 := by
      unfold up upI
      simp only
      rw [u2.1, u2.2, u1.1, j2.1, j2.2, j1.1]
    have s2 : up (Y, V) ↔ upI v1 v2 := by
      unfold up upI
      simp only
      rw [u4.1, u4.2, u3.1, j4.1, j4.2, j3.1]
    unfold same befK
    simp only [crK, dtK]
    rw [s1, s2, c1.1, c1.2, c2.1, i1.1, i1.2, i2.1]
    exact ⟨Iff.rfl, Iff.rfl⟩
end
def TurnG (p q : Int) : Prop := 0 < p ∨ (p = 0 ∧ q = 1)
def tsg (p q r s : Int) : Int := if (decide (q < 0)) ≠ (decide (s < 0)) then (if q < 0 then 1 else -1) else (q * r - s * p).sign
theorem turn_up {p q : Int} (hf : 1 ≤ f) (h : TurnG p q) : upI (p * p - f * q * q) (2 * p * q) ↔ (0 < p ∧ 0 ≤ q) := by
  unfold upI
  rcases h with h | ⟨rfl, rfl⟩
  · rcases Int.lt_trichotomy q 0 with c | c | c
    · have := Int.mul_neg_of_pos_of_neg h c
      have e : 2 * p * q = 2 * (p * q) := Int.mul_assoc _ _ _
      omega
    · subst c
      have := Int.mul_pos h h
      simp
      omega
    · have := Int.mul_pos h c
      have e : 2 * p * q = 2 * (p * q) := Int.mul_assoc _ _ _
      omega
  · simp
    omega
theorem turn_sizes {p q r s g A B g' A' B' : Int} (hA : AngG f A B 0) (hH : AngG f A' B' 0) (h1 : TurnG p q) (h2 : TurnG r s) (hg : 0 < g) (e1 : g * A = -f * (2 * p * q)) (e2 : g * B = p * p - f * q * q) (hg' : 0 < g') (e1' : g' * A' = -f * (2 * r * s)) (e2' : g' * B' = r * r - f * s * s) :
    tsg p q r s = if one f A B 0 A' B' 0 = true then 0 else if bef f A B 0 A' B' 0 = true then -1 else 1 := by
  obtain ⟨o, b⟩ := ways_two hA hH hg e1 e2 hg' e1' e2'
  have hf := hA.f1
  rw [turn_up hf h1, turn_up hf h2] at b
  have c : (p * p - f * q * q) * (2 * r * s) - 2 * p * q * (r * r - f * s * s) = 2 * ((p * r + f * (q * s)) * (p * s - q * r)) := by grind
  have d : (p * p - f * q * q) * (r * r - f * s * s) + f * (2 * p * q * (2 * r * s)) = (p * r + f * (q * s)) * (p * r + f * (q * s)) - f * ((p * s - q * r) * (p * s - q * r)) := by grind
  rw [c] at o b
  rw [d] at o
  have im : q * r - s * p = -(p * s - q * r) := by grind
  unfold tsg
  rw [im]
  generalize hI : p * s - q * r = I at *
  generalize hR : p * r + f * (q * s) = R at *
  have z : 2 * (R * I) = 0 ↔ R = 0 ∨ I = 0 := by
    rw [← Int.mul_eq_zero (a := R)]
    omega
  have ps : 0 < R → (0 < 2 * (R * I) ↔ 0 < I) := by
    intro h
    constructor
    · intro h'
      rcases Int.lt_trichotomy I 0 with c | c | c
      · have := Int.mul_neg_of_pos_of_neg h c
        omega
      · subst c; simp at h'
      · exact c
    · intro h'
      have := Int.mul_pos h h'
      omega
  have ns : R < 0 → (0 < 2 * (R * I) ↔ I < 0) := by
    intro h
    constructor
    · intro h'
      rcases Int.lt_trichotomy I 0 with c | c | c
      · exact c
      · subst c; simp at h'
      · have := Int.mul_neg_of_neg_of_pos h c
        omega
    · intro h'
      have := Int.mul_pos_of_neg_of_neg h h'
      omega
  have sqp : ∀ {x : Int}, x ≠ 0 → 0 < x * x := by
    intro x hx
    rcases Int.lt_or_gt_of_ne hx with h | h
    · exact Int.mul_pos_of_neg_of_neg h h
    · exact Int.mul_pos h h
  have of_ : I ≠ 0 → one f A B 0 A' B' 0 = false := by
    intro hI0
    rw [Bool.eq_false_iff]
    intro ho
    obtain ⟨a1, a2⟩ := o.1 ho
    rcases z.1 a1 with h | h
    · rw [h] at a2
      have := Int.mul_pos (show 0 < f by omega) (sqp hI0)
      omega
    · exact hI0 h
  have ot_ : I = 0 → R ≠ 0 → one f A B 0 A' B' 0 = true := by
    intro hI0 hR0
    refine o.2 ⟨z.2 (.inr hI0), ?_⟩
    have := sqp hR0
    rw [hI0]
    omega
  have bt_ : ∀ P : Prop, P → (bef f A B 0 A' B' 0 = true ↔ P) → bef f A B 0 A' B' 0 = true := fun P h e => e.2 h
  have sgn3 : ∀ {b1 : Bool}, (I = 0 → R ≠ 0) → (b1 = bef f A B 0 A' B' 0) → (bef f A B 0 A' B' 0 = true ↔ 0 < I) → (-I).sign = if one f A B 0 A' B' 0 = true then 0 else if bef f A B 0 A' B' 0 = true then -1 else 1 := by
    intro b1 hR0 hb1 hb
    rcases Int.lt_trichotomy I 0 with c | c | c
    · rw [of_ (by omega), Int.sign_eq_one_of_pos (by omega)]
      have : bef f A B 0 A' B' 0 = false := by rw [Bool.eq_false_iff]; intro h; have := hb.1 h; omega
      rw [this]; rfl
    · rw [ot_ c (hR0 c), c]; rfl
    · rw [of_ (by omega), Int.sign_eq_neg_one_of_neg (by omega), hb.2 c]; rfl
  rcases h1 with hp | ⟨hp, hq⟩ <;> rcases h2 with hr | ⟨hr, hs⟩
  · have pr := Int.mul_pos hp hr
    by_cases cq : q < 0 <;> by_cases cs : s < 0
    · have qs := Int.mul_pos_of_neg_of_neg cq cs
      have fqs := Int.mul_pos (show 0 < f by omega) qs
      have hRp : 0 < R := by omega
      rw [if_neg (by simp [cq, cs])]
      refine sgn3 (fun _ => by omega) rfl ?_
      rw [b, ps hRp]
      constructor
      · rintro (h | h)
        · omega
        · exact h.2
      · intro h
        exact .inr ⟨⟨fun h => by omega, fun h => by omega⟩, h⟩
    · have hI1 := Int.mul_nonneg (Int.le_of_lt hp) (show 0 ≤ s by omega)
      have hI2 := Int.mul_neg_of_neg_of_pos cq hr
      rw [if_pos (by simp [cq, cs]), if_pos cq, of_ (by omega)]
      have : bef f A B 0 A' B' 0 = false := by
        rw [Bool.eq_false_iff]
        intro h
        rcases b.1 h with h | h
        · omega
        · have := h.1.2 ⟨hr, by omega⟩
          omega
      rw [this]; rfl
    · have hI1 := Int.mul_neg_of_pos_of_neg hp cs
      have hI2 := Int.mul_nonneg (show 0 ≤ q by omega) (Int.le_of_lt hr)
      rw [if_pos (by simp [cq, cs]), if_neg cq, of_ (by omega), b.2 (.inl ⟨⟨hp, by omega⟩, by omega⟩)]
      rfl
    · have qs := Int.mul_nonneg (show 0 ≤ q by omega) (show 0 ≤ s by omega)
      have fqs := Int.mul_nonneg (show 0 ≤ f by omega) qs
      have hRp : 0 < R := by omega
      rw [if_neg (by simp [cq, cs])]
      refine sgn3 (fun _ => by omega) rfl ?_
      rw [b, ps hRp]
      constructor
      · rintro (h | h)
        · exfalso
          exact h.2 ⟨hr, by omega⟩
        · exact h.2
      · intro h
        exact .inr ⟨⟨fun _ => ⟨hr, by omega⟩, fun _ => ⟨hp, by omega⟩⟩, h⟩
  · subst hr; subst hs
    have hIp : I = p := by omega
    have hRq : R = f * q := by rw [← hR]; simp
    by_cases cq : q < 0
    · have := Int.mul_neg_of_pos_of_neg (show 0 < f by omega) cq
      rw [if_pos (by simp [cq]), if_pos cq, of_ (by omega)]
      have : bef f A B 0 A' B' 0 = false := by
        rw [Bool.eq_false_iff]
        intro h
        rcases b.1 h with h | h
        · omega
        · have := (ns (by omega)).1 h.2
          omega
      rw [this]; rfl
    · rw [if_neg (by simp [cq]), of_ (by omega), b.2 (.inl ⟨⟨hp, by omega⟩, by omega⟩), Int.sign_eq_neg_one_of_neg (by omega)]
      rfl
  · subst hp; subst hq
    have hIp : I = -r := by omega
    have hRq : R = f * s := by rw [← hR]; simp
    by_cases cs : s < 0
    · have := Int.mul_neg_of_pos_of_neg (show 0 < f by omega) cs
      rw [if_pos (by simp [cs]), if_neg (by decide), of_ (by omega), b.2 (.inr ⟨⟨fun h => by omega, fun h => by omega⟩, (ns (by omega)).2 (by omega)⟩)]
      rfl
    · rw [if_neg (by simp [cs]), of_ (by omega), Int.sign_eq_one_of_pos (by omega)]
      have : bef f A B 0 A' B' 0 = false := by
        rw [Bool.eq_false_iff]
        intro h
        rcases b.1 h with h | h
        · omega
        · have := h.1.2 ⟨hr, by omega⟩
          omega
      rw [this]; rfl
  · subst hp; subst hq; subst hr; subst hs
    have hI0 : I = 0 := by omega
    have hRq : R = f := by rw [← hR]; simp
    rw [if_neg (by simp), ot_ hI0 (by omega), hI0]
    rfl
end Geo

namespace DL
open PySem PySem.Spec PyProof.Rows L2
@[simp] theorem mkT_10 (x0 x1 x2 x3 x4 x5 x6 x7 x8 x9 : PyData) : mkT [.d x0, .d x1, .d x2, .d x3, .d x4, .d x5, .d x6, .d x7, .d x8, .d x9] = re (.d (.tuple [x0, x1, x2, x3, x4, x5, x6, x7, x8, x9])) := mkT_map [x0, x1, x2, x3, x4, x5, x6, x7, x8, x9] (by show 10 ≤ 100000; decide)
@[simp] theorem mkL_10 (x0 x1 x2 x3 x4 x5 x6 x7 x8 x9 : PyData) : mkL [.d x0, .d x1, .d x2, .d x3, .d x4, .d x5, .d x6, .d x7, .d x8, .d x9] = re (.d (.list [x0, x1, x2, x3, x4, x5, x6, x7, x8, x9])) := mkL_map [x0, x1, x2, x3, x4, x5, x6, x7, x8, x9] (by show 10 ≤ 100000; decide)
@[simp] theorem mkT_11 (x0 x1 x2 x3 x4 x5 x6 x7 x8 x9 x10 : PyData) : mkT [.d x0, .d x1, .d x2, .d x3, .d x4, .d x5, .d x6, .d x7, .d x8, .d x9, .d x10] = re (.d (.tuple [x0, x1, x2, x3, x4, x5, x6, x7, x8, x9, x10])) := mkT_map [x0, x1, x2, x3, x4, x5, x6, x7, x8, x9, x10] (by show 11 ≤ 100000; decide)
@[simp] theorem mkL_11 (x0 x1 x2 x3 x4 x5 x6 x7 x8 x9 x10 : PyData) : mkL [.d x0, .d x1, .d x2, .d x3, .d x4, .d x5, .d x6, .d x7, .d x8, .d x9, .d x10] = re (.d (.list [x0, x1, x2, x3, x4, x5, x6, x7, x8, x9, x10])) := mkL_map [x0, x1, x2, x3, x4, x5, x6, x7, x8, x9, x10] (by show 11 ≤ 100000; decide)
@[simp] theorem mkT_12 (x0 x1 x2 x3 x4 x5 x6 x7 x8 x9 x10 x11 : PyData) : mkT [.d x0, .d x1, .d x2, .d x3, .d x4, .d x5, .d x6, .d x7, .d x8, .d x9, .d x10, .d x11] = re (.d (.tuple [x0, x1, x2, x3, x4, x5, x6, x7, x8, x9, x10, x11])) := mkT_map [x0, x1, x2, x3, x4, x5, x6, x7, x8, x9, x10, x11] (by show 12 ≤ 100000; decide)
@[simp] theorem mkL_12 (x0 x1 x2 x3 x4 x5 x6 x7 x8 x9 x10 x11 : PyData) : mkL [.d x0, .d x1, .d x2, .d x3, .d x4, .d x5, .d x6, .d x7, .d x8, .d x9, .d x10, .d x11] = re (.d (.list [x0, x1, x2, x3, x4, x5, x6, x7, x8, x9, x10, x11])) := mkL_map [x0, x1, x2, x3, x4, x5, x6, x7, x8, x9, x10, x11] (by show 12 ≤ 100000; decide)
@[simp] theorem mkT_13 (x0 x1 x2 x3 x4 x5 x6 x7 x8 x9 x10 x11 x12 : PyData) : mkT [.d x0, .d x1, .d x2, .d x3, .d x4, .d x5, .d x6, .d x7, .d x8, .d x9, .d x10, .d x11, .d x12] = re (.d (.tuple [x0, x1, x2, x3, x4, x5, x6, x7, x8, x9, x10, x11, x12])) := mkT_map [x0, x1, x2, x3, x4, x5, x6, x7, x8, x9, x10, x11, x12] (by show 13 ≤ 100000; decide)
@[simp] theorem mkL_13 (x0 x1 x2 x3 x4 x5 x6 x7 x8 x9 x10 x11 x12 : PyData) : mkL [.d x0, .d x1, .d x2, .d x3, .d x4, .d x5, .d x6, .d x7, .d x8, .d x9, .d x10, .d x11, .d x12] = re (.d (.list [x0, x1, x2, x3, x4, x5, x6, x7, x8, x9, x10, x11, x12])) := mkL_map [x0, x1, x2, x3, x4, x5, x6, x7, x8, x9, x10, x11, x12] (by show 13 ≤ 100000; decide)
@[simp] theorem mkT_14 (x0 x1 x2 x3 x4 x5 x6 x7 x8 x9 x10 x11 x12 x13 : PyData) : mkT [.d x0, .d x1, .d x2, .d x3, .d x4, .d x5, .d x6, .d x7, .d x8, .d x9, .d x10, .d x11, .d x12, .d x13] = re (.d (.tuple [x0, x1, x2, x3, x4, x5, x6, x7, x8, x9, x10, x11, x12, x13])) := mkT_map [x0, x1, x2, x3, x4, x5, x6, x7, x8, x9, x10, x11, x12, x13] (by show 14 ≤ 100000; decide)
@[simp] theorem mkL_14 (x0 x1 x2 x3 x4 x5 x6 x7 x8 x9 x10 x11 x12 x13 : PyData) : mkL [.d x0, .d x1, .d x2, .d x3, .d x4, .d x5, .d x6, .d x7, .d x8, .d x9, .d x10, .d x11, .d x12, .d x13] = re (.d (.list [x0, x1, x2, x3, x4, x5, x6, x7, x8, x9, x10, x11, x12, x13])) := mkL_map [x0, x1, x2, x3, x4, x5, x6, x7, x8, x9, x10, x11, x12, x13] (by show 14 ≤ 100000; decide)
@[simp] theorem mkT_15 (x0 x1 x2 x3 x4 x5 x6 x7 x8 x9 x10 x11 x12 x13 x14 : PyData) : mkT [.d x0, .d x1, .d x2, .d x3, .d x4, .d x5, .d x6, .d x7, .d x8, .d x9, .d x10, .d x11, .d x12, .d x13, .d x14] = re (.d (.tuple [x0, x1, x2, x3, x4, x5, x6, x7, x8, x9, x10, x11, x12, x13, x14])) := mkT_map [x0, x1, x2, x3, x4, x5, x6, x7, x8, x9, x10, x11, x12, x13, x14] (by show 15 ≤ 100000; decide)
@[simp] theorem mkL_15 (x0 x1 x2 x3 x4 x5 x6 x7 x8 x9 x10 x11 x12 x13 x14 : PyData) : mkL [.d x0, .d x1, .d x2, .d x3, .d x4, .d x5, .d x6, .d x7, .d x8, .d x9, .d x10, .d x11, .d x12, .d x13, .d x14] = re (.d (.list [x0, x1, x2, x3, x4, x5, x6, x7, x8, x9, x10, x11, x12, x13, x14])) := mkL_map [x0, x1, x2, x3, x4, x5, x6, x7, x8, x9, x10, x11, x12, x13, x14] (by show 15 ≤ 100000; decide)
@[simp] theorem mkT_16 (x0 x1 x2 x3 x4 x5 x6 x7 x8 x9 x10 x11 x12 x13 x14 x15 : PyData) : mkT [.d x0, .d x1, .d x2, .d x3, .d x4, .d x5, .d x6, .d x7, .d x8, .d x9, .d x10, .d x11, .d x12, .d x13, .d x14, .d x15] = re (.d (.tuple [x0, x1, x2, x3, x4, x5, x6, x7, x8, x9, x10, x11, x12, x13, x14, x15])) := mkT_map [x0, x1, x2, x3, x4, x5, x6, x7, x8, x9, x10, x11, x12, x13, x14, x15] (by show 16 ≤ 100000; decide)
@[simp] theorem mkL_16 (x0 x1 x2 x3 x4 x5 x6 x7 x8 x9 x10 x11 x12 x13 x14 x15 : PyData) : mkL [.d x0, .d x1, .d x2, .d x3, .d x4, .d x5, .d x6, .d x7, .d x8, .d x9, .d x10, .d x11, .d x12, .d x13, .d x14, .d x15] = re (.d (.list [x0, x1, x2, x3, x4, x5, x6, x7, x8, x9, x10, x11, x12, x13, x14, x15])) := mkL_map [x0, x1, x2, x3, x4, x5, x6, x7, x8, x9, x10, x11, x12, x13, x14, x15] (by show 16 ≤ 100000; decide)
@[simp] theorem mkT_17 (x0 x1 x2 x3 x4 x5 x6 x7 x8 x9 x10 x11 x12 x13 x14 x15 x16 : PyData) : mkT [.d x0, .d x1, .d x2, .d x3, .d x4, .d x5, .d x6, .d x7, .d x8, .d x9, .d x10, .d x11, .d x12, .d x13, .d x14, .d x15, .d x16] = re (.d (.tuple [x0, x1, x2, x3, x4, x5, x6, x7, x8, x9, x10, x11, x12, x13, x14, x15, x16])) := mkT_map [x0, x1, x2, x3, x4, x5, x6, x7, x8, x9, x10, x11, x12, x13, x14, x15, x16] (by show 17 ≤ 100000; decide)
@[simp] theorem mkL_17 (x0 x1 x2 x3 x4 x5 x6 x7 x8 x9 x10 x11 x12 x13 x14 x15 x16 : PyData) : mkL [.d x0, .d x1, .d x2, .d x3, .d x4, .d x5, .d x6, .d x7, .d x8, .d x9, .d x10, .d x11, .d x12, .d x13, .d x14, .d x15, .d x16] = re (.d (.list [x0, x1, x2, x3, x4, x5, x6, x7, x8, x9, x10, x11, x12, x13, x14, x15, x16])) := mkL_map [x0, x1, x2, x3, x4, x5, x6, x7, x8, x9, x10, x11, x12, x13, x14, x15, x16] (by show 17 ≤ 100000; decide)
@[simp] theorem mkT_18 (x0 x1 x2 x3 x4 x5 x6 x7 x8 x9 x10 x11 x12 x13 x14 x15 x16 x17 : PyData) : mkT [.d x0, .d x1, .d x2, .d x3, .d x4, .d x5, .d x6, .d x7, .d x8, .d x9, .d x10, .d x11, .d x12, .d x13, .d x14, .d x15, .d x16, .d x17] = re (.d (.tuple [x0, x1, x2, x3, x4, x5, x6, x7, x8, x9, x10, x11, x12, x13, x14, x15, x16, x17])) := mkT_map [x0, x1, x2, x3, x4, x5, x6, x7, x8, x9, x10, x11, x12, x13, x14, x15, x16, x17] (by show 18 ≤ 100000; decide)
@[simp] theorem mkL_18 (x0 x1 x2 x3 x4 x5 x6 x7 x8 x9 x10 x11 x12 x13 x14 x15 x16 x17 : PyData) : mkL [.d x0, .d x1, .d x2, .d x3, .d x4, .d x5, .d x6, .d x7, .d x8, .d x9, .d x10, .d x11, .d x12, .d x13, .d x14, .d x15, .d x16, .d x17] = re (.d (.list [x0, x1, x2, x3, x4, x5, x6, x7, x8, x9, x10, x11, x12, x13, x14, x15, x16, x17])) := mkL_map [x0, x1, x2, x3, x4, x5, x6, x7, x8, x9, x10, x11, x12, x13, x14, x15, x16, x17] (by show 18 ≤ 100000; decide)
@[simp] theorem mkT_19 (x0 x1 x2 x3 x4 x5 x6 x7 x8 x9 x10 x11 x12 x13 x14 x15 x16 x17 x18 : PyData) : mkT [.d x0, .d x1, .d x2, .d x3, .d x4, .d x5, .d x6, .d x7, .d x8, .d x9, .d x10, .d x11, .d x12, .d x13, .d x14, .d x15, .d x16, .d x17, .d x18] = re (.d (.tuple [x0, x1, x2, x3, x4, x5, x6, x7, x8, x9, x10, x11, x12, x13, x14, x15, x16, x17, x18])) := mkT_map [x0, x1, x2, x3, x4, x5, x6, x7, x8, x9, x10, x11, x12, x13, x14, x15, x16, x17, x18] (by show 19 ≤ 100000; decide)
@[simp] theorem mkL_19 (x0 x1 x2 x3 x4 x5 x6 x7 x8 x9 x10 x11 x12 x13 x14 x15 x16 x17 x18 : PyData) : mkL [.d x0, .d x1, .d x2, .d x3, .d x4, .d x5, .d x6, .d x7, .d x8, .d x9, .d x10, .d x11, .d x12, .d x13, .d x14, .d x15, .d x16, .d x17, .d x18] = re (.d (.list [x0, x1, x2, x3, x4, x5, x6, x7, x8, x9, x10, x11, x12, x13, x14, x15, x16, x17, x18])) := mkL_map [x0, x1, x2, x3, x4, x5, x6, x7, x8, x9, x10, x11, x12, x13, x14, x15, x16, x17, x18] (by show 19 ≤ 100000; decide)
@[simp] theorem mkT_20 (x0 x1 x2 x3 x4 x5 x6 x7 x8 x9 x10 x11 x12 x13 x14 x15 x16 x17 x18 x19 : PyData) : mkT [.d x0, .d x1, .d x2, .d x3, .d x4, .d x5, .d x6, .d x7, .d x8, .d x9, .d x10, .d x11, .d x12, .d x13, .d x14, .d x15, .d x16, .d x17, .d x18, .d x19] = re (.d (.tuple [x0, x1, x2, x3, x4, x5, x6, x7, x8, x9, x10, x11, x12, x13, x14, x15, x16, x17, x18, x19])) := mkT_map [x0, x1, x2, x3, x4, x5, x6, x7, x8, x9, x10, x11, x12, x13, x14, x15, x16, x17, x18, x19] (by show 20 ≤ 100000; decide)
@[simp] theorem mkL_20 (x0 x1 x2 x3 x4 x5 x6 x7 x8 x9 x10 x11 x12 x13 x14 x15 x16 x17 x18 x19 : PyData) : mkL [.d x0, .d x1, .d x2, .d x3, .d x4, .d x5, .d x6, .d x7, .d x8, .d x9, .d x10, .d x11, .d x12, .d x13, .d x14, .d x15, .d x16, .d x17, .d x18, .d x19] = re (.d (.list [x0, x1, x2, x3, x4, x5, x6, x7, x8, x9, x10, x11, x12, x13, x14, x15, x16, x17, x18, x19])) := mkL_map [x0, x1, x2, x3, x4, x5, x6, x7, x8, x9, x10, x11, x12, x13, x14, x15, x16, x17, x18, x19] (by show 20 ≤ 100000; decide)
@[simp] theorem mkT_21 (x0 x1 x2 x3 x4 x5 x6 x7 x8 x9 x10 x11 x12 x13 x14 x15 x16 x17 x18 x19 x20 : PyData) : mkT [.d x0, .d x1, .d x2, .d x3, .d x4, .d x5, .d x6, .d x7, .d x8, .d x9, .d x10, .d x11, .d x12, .d x13, .d x14, .d x15, .d x16, .d x17, .d x18, .d x19, .d x20] = re (.d (.tuple [x0, x1, x2, x3, x4, x5, x6, x7, x8, x9, x10, x11, x12, x13, x14, x15, x16, x17, x18, x19, x20])) := mkT_map [x0, x1, x2, x3, x4, x5, x6, x7, x8, x9, x10, x11, x12, x13, x14, x15, x16, x17, x18, x19, x20] (by show 21 ≤ 100000; decide)
@[simp] theorem mkL_21 (x0 x1 x2 x3 x4 x5 x6 x7 x8 x9 x10 x11 x12 x13 x14 x15 x16 x17 x18 x19 x20 : PyData) : mkL [.d x0, .d x1, .d x2, .d x3, .d x4, .d x5, .d x6, .d x7, .d x8, .d x9, .d x10, .d x11, .d x12, .d x13, .d x14, .d x15, .d x16, .d x17, .d x18, .d x19, .d x20] = re (.d (.list [x0, x1, x2, x3, x4, x5, x6, x7, x8, x9, x10, x11, x12, x13, x14, x15, x16, x17, x18, x19, x20])) := mkL_map [x0, x1, x2, x3, x4, x5, x6, x7, x8, x9, x10, x11, x12, x13, x14, x15, x16, x17, x18, x19, x20] (by show 21 ≤ 100000; decide)
@[simp] theorem mkT_22 (x0 x1 x2 x3 x4 x5 x6 x7 x8 x9 x10 x11 x12 x13 x14 x15 x16 x17 x18 x19 x20 x21 : PyData) : mkT [.d x0, .d x1, .d x2, .d x3, .d x4, .d x5, .d x6, .d x7, .d x8, .d x9, .d x10, .d x11, .d x12, .d x13, .d x14, .d x15, .d x16, .d x17, .d x18, .d x19, .d x20, .d x21] = re (.d (.tuple [x0, x1, x2, x3, x4, x5, x6, x7, x8, x9, x10, x11, x12, x13, x14, x15, x16, x17, x18, x19, x20, x21])) := mkT_map [x0, x1, x2, x3, x4, x5, x6, x7, x8, x9, x10, x11, x12, x13, x14, x15, x16, x17, x18, x19, x20, x21] (by show 22 ≤ 100000; decide)
@[simp] theorem mkL_22 (x0 x1 x2 x3 x4 x5 x6 x7 x8 x9 x10 x11 x12 x13 x14 x15 x16 x17 x18 x19 x20 x21 : PyData) : mkL [.d x0, .d x1, .d x2, .d x3, .d x4, .d x5, .d x6, .d x7, .d x8, .d x9, .d x10, .d x11, .d x12, .d x13, .d x14, .d x15, .d x16, .d x17, .d x18, .d x19, .d x20, .d x21] = re (.d (.list [x0, x1, x2, x3, x4, x5, x6, x7, x8, x9, x10, x11, x12, x13, x14, x15, x16, x17, x18, x19, x20, x21])) := mkL_map [x0, x1, x2, x3, x4, x5, x6, x7, x8, x9, x10, x11, x12, x13, x14, x15, x16, x17, x18, x19, x20, x21] (by show 22 ≤ 100000; decide)
@[simp] theorem mkT_23 (x0 x1 x2 x3 x4 x5 x6 x7 x8 x9 x10 x11 x12 x13 x14 x15 x16 x17 x18 x19 x20 x21 x22 : PyData) : mkT [.d x0, .d x1, .d x2, .d x3, .d x4, .d x5, .d x6, .d x7, .d x8, .d x9, .d x10, .d x11, .d x12, .d x13, .d x14, .d x15, .d x16, .d x17, .d x18, .d x19, .d x20, .d x21, .d x22] = re (.d (.tuple [x0, x1, x2, x3, x4, x5, x6, x7, x8, x9, x10, x11, x12, x13, x14, x15, x16, x17, x18, x19, x20, x21, x22])) := mkT_map [x0, x1, x2, x3, x4, x5, x6, x7, x8, x9, x10, x11, x12, x13, x14, x15, x16, x17, x18, x19, x20, x21, x22] (by show 23 ≤ 100000; decide)
@[simp] theorem mkL_23 (x0 x1 x2 x3 x4 x5 x6 x7 x8 x9 x10 x11 x12 x13 x14 x15 x16 x17 x18 x19 x20 x21 x22 : PyData) : mkL [.d x0, .d x1, .d x2, .d x3, .d x4, .d x5, .d x6, .d x7, .d x8, .d x9, .d x10, .d x11, .d x12, .d x13, .d x14, .d x15, .d x16, .d x17, .d x18, .d x19, .d x20, .d x21, .d x22] = re (.d (.list [x0, x1, x2, x3, x4, x5, x6, x7, x8, x9, x10, x11, x12, x13, x14, x15, x16, x17, x18, x19, x20, x21, x22])) := mkL_map [x0, x1, x2, x3, x4, x5, x6, x7, x8, x9, x10, x11, x12, x13, x14, x15, x16, x17, x18, x19, x20, x21, x22] (by show 23 ≤ 100000; decide)
@[simp] theorem mkT_24 (x0 x1 x2 x3 x4 x5 x6 x7 x8 x9 x10 x11 x12 x13 x14 x15 x16 x17 x18 x19 x20 x21 x22 x23 : PyData) : mkT [.d x0, .d x1, .d x2, .d x3, .d x4, .d x5, .d x6, .d x7, .d x8, .d x9, .d x10, .d x11, .d x12, .d x13, .d x14, .d x15, .d x16, .d x17, .d x18, .d x19, .d x20, .d x21, .d x22, .d x23] = re (.d (.tuple [x0, x1, x2, x3, x4, x5, x6, x7, x8, x9, x10, x11, x12, x13, x14, x15, x16, x17, x18, x19, x20, x21, x22, x23])) := mkT_map [x0, x1, x2, x3, x4, x5, x6, x7, x8, x9, x10, x11, x12, x13, x14, x15, x16, x17, x18, x19, x20, x21, x22, x23] (by show 24 ≤ 100000; decide)
@[simp] theorem mkL_24 (x0 x1 x2 x3 x4 x5 x6 x7 x8 x9 x10 x11 x12 x13 x14 x15 x16 x17 x18 x19 x20 x21 x22 x23 : PyData) : mkL [.d x0, .d x1, .d x2, .d x3, .d x4, .d x5, .d x6, .d x7, .d x8, .d x9, .d x10, .d x11, .d x12, .d x13, .d x14, .d x15, .d x16, .d x17, .d x18, .d x19, .d x20, .d x21, .d x22, .d x23] = re (.d (.list [x0, x1, x2, x3, x4, x5, x6, x7, x8, x9, x10, x11, x12, x13, x14, x15, x16, x17, x18, x19, x20, x21, x22, x23])) := mkL_map [x0, x1, x2, x3, x4, x5, x6, x7, x8, x9, x10, x11, x12, x13, x14, x15, x16, x17, x18, x19, x20, x21, x22, x23] (by show 24 ≤ 100000; decide)
@[simp] theorem mkT_25 (x0 x1 x2 x3 x4 x5 x6 x7 x8 x9 x10 x11 x12 x13 x14 x15 x16 x17 x18 x19 x20 x21 x22 x23 x24 : PyData) : mkT [.d x0, .d x1, .d x2, .d x3, .d x4, .d x5, .d x6, .d x7, .d x8, .d x9, .d x10, .d x11, .d x12, .d x13, .d x14, .d x15, .d x16, .d x17, .d x18, .d x19, .d x20, .d x21, .d x22, .d x23, .d x24] = re (.d (.tuple [x0, x1, x2, x3, x4, x5, x6, x7, x8, x9, x10, x11, x12, x13, x14, x15, x16, x17, x18, x19, x20, x21, x22, x23, x24])) := mkT_map [x0, x1, x2, x3, x4, x5, x6, x7, x8, x9, x10, x11, x12, x13, x14, x15, x16, x17, x18, x19, x20, x21, x22, x23, x24] (by show 25 ≤ 100000; decide)
@[simp] theorem mkL_25 (x0 x1 x2 x3 x4 x5 x6 x7 x8 x9 x10 x11 x12 x13 x14 x15 x16 x17 x18 x19 x20 x21 x22 x23 x24 : PyData) : mkL [.d x0, .d x1, .d x2, .d x3, .d x4, .d x5, .d x6, .d x7, .d x8, .d x9, .d x10, .d x11, .d x12, .d x13, .d x14, .d x15, .d x16, .d x17, .d x18, .d x19, .d x20, .d x21, .d x22, .d x23, .d x24] = re (.d (.list [x0, x1, x2, x3, x4, x5, x6, x7, x8, x9, x10, x11, x12, x13, x14, x15, x16, x17, x18, x19, x20, x21, x22, x23, x24])) := mkL_map [x0, x1, x2, x3, x4, x5, x6, x7, x8, x9, x10, x11, x12, x13, x14, x15, x16, x17, x18, x19, x20, x21, x22, x23, x24] (by show 25 ≤ 100000; decide)
@[simp] theorem ofString_inj (s t : String) : (Str.ofString s = Str.ofString t) = (s = t) := by
  refine propext ⟨fun h => ?_, fun h => by rw [h]⟩
  rw [Str.ofString_eq_toList, Str.ofString_eq_toList] at h
  injection h with h
  have h := congrArg Array.toList h
  simp only [List.toList_toArray] at h
  have inj : ∀ a b : Char, a.toNat = b.toNat → a = b := fun a b e => Char.ext (UInt32.toNat_inj.1 e)
  have h2 : s.toList = t.toList := (List.map_inj_right (f := Char.toNat) fun a b e => inj a b e).1 h
  exact String.toList_inj.1 h2
section
variable {Γ : Sm} {ρ : Env'}
theorem forE_any (a : PyData → Env' → Mo Env') (b : Env' → Mo Fl) (S0 S1 : Sto) : ∀ (xs : List PyData) (ρ : Env'), forE a b S0 [] xs ρ = forE a b S1 [] xs ρ
  | [], ρ => by
    funext S
    rw [forE, forE, staying_eq (fun j hj => by cases hj), staying_eq (fun j hj => by cases hj)]
  | x :: xs, ρ => by
    funext S
    rw [forE, forE, staying_eq (fun j hj => by cases hj), staying_eq (fun j hj => by cases hj)]
    have e : ∀ ρ, forE a b S0 [] xs ρ = forE a b S1 [] xs ρ := fun ρ => forE_any a b S0 S1 xs ρ
    simp only [e]
noncomputable def kFr (Γ : Sm) (p : Pat) (b : List Sx) (w : List PyData → PyData) (xs : List PyData) (f : Fl) : Mo Fl := match f with
  | .nx ρ => frW Γ .seq p b ρ [.d (w xs)]
  | .ct ρ => frW Γ .seq p b ρ [.d (w xs)]
  | .bk ρ => re (.nx ρ)
  | .rt w => re (.rt w)
  | .rl w => re (.rl w)
noncomputable def kFrA (Γ : Sm) (p : Pat) (b : List Sx) (w : List PyData → PyData) (xs : List PyData) (ρ : Env') : Mo Fl := bnd (exSs Γ b ρ) (kFr Γ p b w xs)
@[simp] theorem kFrA_ (p : Pat) (b : List Sx) (w : List PyData → PyData) (xs : List PyData) : kFrA Γ p b w xs ρ = bnd (exSs Γ b ρ) (kFr Γ p b w xs) := rfl
@[simp] theorem kFr_nx (p : Pat) (b : List Sx) (w : List PyData → PyData) (xs : List PyData) : kFr Γ p b w xs (.nx ρ) = frW Γ .seq p b ρ [.d (w xs)] := rfl
@[simp] theorem kFr_ct (p : Pat) (b : List Sx) (w : List PyData → PyData) (xs : List PyData) : kFr Γ p b w xs (.ct ρ) = frW Γ .seq p b ρ [.d (w xs)] := rfl
@[simp] theorem kFr_bk (p : Pat) (b : List Sx) (w : List PyData → PyData) (xs : List PyData) : kFr Γ p b w xs (.bk ρ) = re (.nx ρ) := rfl
@[simp] theorem kFr_rt (p : Pat) (b : List Sx) (w : List PyData → PyData) (xs : List PyData) (v : W) : kFr Γ p b w xs (.rt v) = re (.rt v) := rfl
theorem fr_cons' {p : Pat} {b : List Sx} {x : PyData} {xs : List PyData} {w : List PyData → PyData} (hw : ∀ ys S, seqOf (.d (w ys)) S = some (ys, [])) (hl : xs.length < 90000) : frW Γ .seq p b ρ [.d (w (x :: xs))] = bnd (asg p x ρ) (kFrA Γ p b w xs) := by
  funext S
  have e1 : ∀ ys S, itemsOf .seq [.d (w ys)] S = some (ys, []) := hw
  have l1 : (x :: xs).length ≤ LIM := by show _ ≤ 100000; rw [List.length_cons]; omega
  have l2 : xs.length ≤ LIM := by show _ ≤ 100000; omega
  have e2 : ∀ ρ, frW Γ .seq p b ρ [.d (w xs)] = forE (asg p) (fun ρ => exSs Γ b ρ) S [] xs ρ := by
    intro ρ
    funext S'
    unfold frW
    rw [e1]
    show (if xs.length ≤ LIM then _ else _) = _
    rw [if_pos l2, forE_any _ _ S' S]
  show frW _ _ _ _ _ _ S = _
  unfold frW
  rw [e1]
  show (if (x :: xs).length ≤ LIM then _ else _) = _
  rw [if_pos l1, forE, staying_eq (fun j hj => by cases hj)]
  congr 1
  congr 1
  funext ρ1
  rw [kFrA_]
  congr 1
  funext f
  cases f with
  | nx ρ2 => exact (e2 ρ2).symm
  | ct ρ2 => exact (e2 ρ2).symm
  | bk _ => rfl
  | rt _ => rfl
  | rl _ => rfl
theorem fr_nil' {p : Pat} {b : List Sx} {w : List PyData → PyData} (hw : ∀ ys S, seqOf (.d (w ys)) S = some (ys, [])) : frW Γ .seq p b ρ [.d (w [])] = re (.nx ρ) := by
  funext S
  unfold frW
  rw [show itemsOf .seq [.d (w [])] S = some ([], []) from hw [] S]
  show (if ([] : List PyData).length ≤ LIM then _ else _) = _
  rw [if_pos (show ([] : List PyData).length ≤ LIM from Nat.zero_le _), forE, staying_eq (fun j hj => by cases hj)]
@[simp] theorem frT_cons {p : Pat} {b : List Sx} {x : PyData} {xs : List PyData} (hl : xs.length < 90000) : frW Γ .seq p b ρ [.d (.tuple (x :: xs))] = bnd (asg p x ρ) (kFrA Γ p b .tuple xs) := fr_cons' (fun _ _ => rfl) hl
@[simp] theorem frL_cons {p : Pat} {b : List Sx} {x : PyData} {xs : List PyData} (hl : xs.length < 90000) : frW Γ .seq p b ρ [.d (.list (x :: xs))] = bnd (asg p x ρ) (kFrA Γ p b .list xs) := fr_cons' (fun _ _ => rfl) hl
@[simp] theorem frT_nil {p : Pat} {b : List Sx} : frW Γ .seq p b ρ [.d (.tuple [])] = re (.nx ρ) := fr_nil' (fun _ _ => rfl)
@[simp] theorem frL_nil {p : Pat} {b : List Sx} : frW Γ .seq p b ρ [.d (.list [])] = re (.nx ρ) := fr_nil' (fun _ _ => rfl)
end
def shB : Nat → PyData → Bool
  | _, .none => true
  | _, .bool _ => true
  | _, .int i => decide (i.natAbs < 2 ^ 1500)
  | _, .str x => x.cps.toList.all (fun c => decide (c < 16 ^ 8)) && decide (x.cps.size ≤ 30)
  | k + 1, .list xs => decide (xs.length ≤ 12) && xs.all (shB k)
  | k + 1, .tuple xs => decide (xs.length ≤ 12) && xs.all (shB k)
  | 0, .list xs => xs.isEmpty
  | 0, .tuple xs => xs.isEmpty
  | _, .dict kvs => kvs.isEmpty
def shBd : Nat → Nat
  | 0 => 30
  | k + 1 => 12 * (shBd k + 1)
theorem sh_int {i : Int} (h : i.natAbs < 2 ^ 1500) : PyData.showable (.int i) = true ∧ PyData.leavesShort 2000 (.int i) = true := by
  constructor
  · show decide (i.natAbs.log2 < 1920) = true
    rw [decide_eq_true_eq]
    by_cases h0 : i.natAbs = 0
    · rw [h0]; decide
    · have := (Nat.log2_lt h0).2 h
      omega
  · show decide ((PyData.shown (.int i)).length ≤ 2000) = true
    rw [decide_eq_true_eq]
    have h1 : i.natAbs < 10 ^ 1500 := Nat.lt_of_lt_of_le h (Nat.pow_le_pow_left (by decide) 1500)
    have e := int_text_length_le10 (k := 1500) (by decide) h1
    have e2 : (PyData.shown (.int i)).length = (toString i).length := by
      show (Str.ofString (toString i)).length = _
      rw [PySem.ofString_length]
    omega
theorem sh_all {xs : List PyData} {k : Nat} (ih : ∀ d, shB k d = true → dOk d = true ∧ d.depth ≤ k + 2 ∧ d.showable = true ∧ d.leavesShort 2000 = true ∧ d.bulk ≤ shBd k) (h : ∀ x ∈ xs, shB k x = true) :
    dOks xs = true ∧ PyData.depthAll xs ≤ k + 2 ∧ PyData.showableAll xs = true ∧ PyData.leavesShortAll 2000 xs = true ∧ PyData.bulkAll xs ≤ xs.length * (shBd k + 1) := by
  induction xs with
  | nil => exact ⟨rfl, Nat.zero_le _, rfl, rfl, by simp [PyData.bulkAll]⟩
  | cons x xs i2 =>
    obtain ⟨a1, a2, a3, a4, a5⟩ := ih x (h x List.mem_cons_self)
    obtain ⟨b1, b2, b3, b4, b5⟩ := i2 fun y hy => h y (List.mem_cons_of_mem _ hy)
    refine ⟨by simp [dOks, a1, b1], ?_, by simp [PyData.showableAll, a3, b3], by simp [PyData.leavesShortAll, a4, b4], ?_⟩
    · simp only [PyData.depthAll]
      omega
    · simp only [PyData.bulkAll, List.length_cons, Nat.add_mul, Nat.one_mul]
      omega
theorem sh_ok : ∀ (k : Nat) (d : PyData), shB k d = true → dOk d = true ∧ d.depth ≤ k + 2 ∧ d.showable = true ∧ d.leavesShort 2000 = true ∧ d.bulk ≤ shBd k := by
  have mon : ∀ k, 30 ≤ shBd k := by
    intro k
    induction k with
    | zero => exact Nat.le_refl _
    | succ k ih => show 30 ≤ 12 * (shBd k + 1); omega
  have atom : ∀ (k : Nat) (d : PyData), (match d with | .list _ => False | .tuple _ => False | _ => True) → shB k d = true → dOk d = true ∧ d.depth ≤ k + 2 ∧ d.showable = true ∧ d.leavesShort 2000 = true ∧ d.bulk ≤ shBd k := by
    intro k d hd h
    have := mon k
    cases d with
    | none => exact ⟨rfl, by simp [PyData.depth], rfl, rfl, Nat.zero_le _⟩
    | bool b => exact ⟨rfl, by simp [PyData.depth], rfl, rfl, Nat.zero_le _⟩
    | int i =>
      have hi : i.natAbs < 2 ^ 1500 := by cases k <;> exact of_decide_eq_true h
      obtain ⟨e1, e2⟩ := sh_int hi
      exact ⟨rfl, by simp [PyData.depth], e1, e2, Nat.zero_le _⟩
    | str x =>
      have hx : (x.cps.toList.all (fun c => decide (c < 16 ^ 8)) && decide (x.cps.size ≤ 30)) = true := by cases k <;> exact h
      rw [Bool.and_eq_true, decide_eq_true_eq] at hx
      exact ⟨rfl, by simp [PyData.depth], rfl, hx.1, Nat.le_trans hx.2 this⟩
    | list xs => exact hd.elim
    | tuple xs => exact hd.elim
    | dict kvs =>
      have hk : kvs.isEmpty = true := by cases k <;> exact h
      rw [List.isEmpty_iff] at hk
      subst hk
      exact ⟨rfl, by simp [PyData.depth, PyData.depthKv], rfl, rfl, Nat.zero_le _⟩
  intro k
  induction k with
  | zero =>
    intro d h
    cases d with
    | list xs =>
      have hk : xs.isEmpty = true := h
      rw [List.isEmpty_iff] at hk
      subst hk
      exact ⟨rfl, by simp [PyData.depth, PyData.depthAll], rfl, rfl, Nat.zero_le _⟩
    | tuple xs =>
      have hk : xs.isEmpty = true := h
      rw [List.isEmpty_iff] at hk
      subst hk
      exact ⟨rfl, by simp [PyData.depth, PyData.depthAll], rfl, rfl, Nat.zero_le _⟩
    | none => exact atom _ _ trivial h
    | bool b => exact atom _ _ trivial h
    | int i => exact atom _ _ trivial h
    | str x => exact atom _ _ trivial h
    | dict kvs => exact atom _ _ trivial h
  | succ k ih =>
    intro d h
    cases d with
    | list xs =>
      have hx : (decide (xs.length ≤ 12) && xs.all (shB k)) = true := h
      rw [Bool.and_eq_true, decide_eq_true_eq, List.all_eq_true] at hx
      obtain ⟨b1, b2, b3, b4, b5⟩ := sh_all ih hx.2
      have := Nat.mul_le_mul_right (shBd k + 1) hx.1
      exact ⟨b1, by simp only [PyData.depth]; omega, b3, b4, by show PyData.bulkAll xs ≤ 12 * (shBd k + 1); omega⟩
    | tuple xs =>
      have hx : (decide (xs.length ≤ 12) && xs.all (shB k)) = true := h
      rw [Bool.and_eq_true, decide_eq_true_eq, List.all_eq_true] at hx
      obtain ⟨b1, b2, b3, b4, b5⟩ := sh_all ih hx.2
      have := Nat.mul_le_mul_right (shBd k + 1) hx.1
      exact ⟨b1, by simp only [PyData.depth]; omega, b3, b4, by show PyData.bulkAll xs ≤ 12 * (shBd k + 1); omega⟩
    | none => exact atom _ _ trivial h
    | bool b => exact atom _ _ trivial h
    | int i => exact atom _ _ trivial h
    | str x => exact atom _ _ trivial h
    | dict kvs => exact atom _ _ trivial h
theorem sh_repr2 {s : Str} {d : PyData} (hs : shB 0 (.str s) = true) (h : shB 2 d = true) : reprOk (.list [.str s, d]) = true := by
  obtain ⟨a1, a2, a3, a4, a5⟩ := sh_ok 0 _ hs
  obtain ⟨b1, b2, b3, b4, b5⟩ := sh_ok 2 _ h
  have e : shBd 0 = 30 := rfl
  have e2 : shBd 2 = 12 * (12 * (30 + 1) + 1) := rfl
  unfold reprOk
  simp only [isSq, dOk, dOks, PyData.depth, PyData.depthAll, PyData.showable, PyData.showableAll, PyData.leavesShort, PyData.leavesShortAll, PyData.bulk, PyData.bulkAll, Bool.and_eq_true, decide_eq_true_eq, Bool.true_and, Bool.and_true] at *
  exact ⟨⟨b1, decide_eq_true (by omega)⟩, b3, ⟨a4, b4⟩, decide_eq_true (by omega)⟩
end DL

namespace G07
open PySem PySem.Spec PyProof.Rows L2 DL
theorem sg_g : @sg = @Geo.sg := rfl
theorem sn_g : @sn = @Geo.sn := rfl
theorem cs_g : @cs = @Geo.cs := rfl
theorem one_g : @one = @Geo.one := rfl
theorem bef_g : @bef = @Geo.bef := rfl
theorem btw_g : @btw = @Geo.btw := rfl
theorem ang_g {f a b l : Int} (h : Ang f a b l) : Geo.AngG f a b l := ⟨h.f1, h.f3, h.n⟩
theorem l_sign4 (k : Nat) (p q s t d o : Int) {w1 w2 w3 w4 w5 w6 : Nat} [Bd p w1] [Bd q w2] [Bd s w3] [Bd t w4] [Bd d w5] [Bd o w6] (h : w1 + w2 + w3 + w4 + w5 + w6 < 100000) :
    (sm (k + 3)).call 49 [.d (.int p), .d (.int q), .d (.int s), .d (.int t), .d (.int d), .d (.int o)] = re (.d (.int (dsg p q s t d o))) := by
  rw [r__law_sign_of_four, c__law_sign_of_four]
  have e1 := l_sign2 k p q d (u := w1) (v := w2) (w := w5) (by omega)
  have e2 := l_sign2 k s t d (u := w3) (v := w4) (w := w5) (by omega)
  have e3 := l_sign2 k (p * p + d * q * q - o * (s * s + d * t * t)) (2 * p * q - 2 * o * s * t) d (by omega)
  have q1 : p * p + d * q * q - o * (s * s + d * t * t) = p * p + q * q * d - o * (s * s + t * t * d) := by grind
  have q2 : 2 * p * q - 2 * o * s * t = 2 * (p * q - o * s * t) := by grind
  obtain ⟨two, ht⟩ : ∃ two, (if 0 < o then rs s t d else 0) = two := ⟨_, rfl⟩
  have hb : two = 1 ∨ two = 0 ∨ two = -1 := by rw [← ht]; exact ite_abs (rs_abs s t d)
  have hbd : Bd two 1 := ⟨by rcases hb with h | h | h <;> rw [h] <;> decide⟩
  have h1 := rs_abs p q d
  have ei : (if 0 < o then re (W.d (PyData.int (rs s t d))) else re (W.d (PyData.int 0))) = re (W.d (PyData.int two)) := by
    rw [← ht]
    split <;> rfl
  have m1 : o2 .mul (.int (rs p q d)) (.int two) = some (.int (rs p q d * two)) := o2_mul_ (by decide)
  have m2 : ∀ z : Int, z = 1 ∨ z = 0 ∨ z = -1 → o2 .mul (.int (rs p q d)) (.int z) = some (.int (rs p q d * z)) := fun z hz => by
    have : Bd z 1 := ⟨by rcases hz with h | h | h <;> rw [h] <;> decide⟩
    exact o2_mul_ (by decide)
  have m3 := m2 _ (rs_abs (p * p + d * q * q - o * (s * s + d * t * t)) (2 * p * q - 2 * o * s * t) d)
  unfold dsg
  rw [ht, ← q1, ← q2]
  simp (disch := omega) [e1, e2, ei, m1]
  generalize rs p q d = u at *
  by_cases c : 0 ≤ u * two
  · simp (disch := omega) [c]
    rcases h1 with rfl | rfl | rfl <;> rcases hb with rfl | rfl | rfl <;> simp at c ⊢
  · simp (disch := omega) [c, e3, m3]
    rcases h1 with rfl | rfl | rfl <;> rcases hb with rfl | rfl | rfl <;> simp at c ⊢
theorem l_sine (k : Nat) (f a b l c d m : Int) {u v1 v2 v3 w1 w2 w3 : Nat} [Bd f u] [Bd a v1] [Bd b v2] [Bd l v3] [Bd c w1] [Bd d w2] [Bd m w3] (h : u + v1 + v2 + v3 + w1 + w2 + w3 < 9500) (hs : u + v1 + v2 + v3 < 8500) (hs2 : u + w1 + w2 + w3 < 8500) (hu : u < 10) :
    (sm (k + 4)).call 59 [.d (A4 f a b l), .d (A4 f c d m)] = re (.d (.int (sn f a b l c d m))) := by
  rw [r__law_sine, c__law_sine]
  have e1 := l_arrow (k + 1) f a b l (u := u) (v1 := v1) (v2 := v2) (w := v3) (by omega)
  have e2 := l_arrow (k + 1) f c d m (u := u) (v1 := w1) (v2 := w2) (w := w3) (by omega)
  have b1 : Bd (l * a * (f * m * d) - f * l * b * (m * c)) (u + u + v1 + v2 + v3 + w1 + w2 + w3 + 4) := bdw (l * a * (f * m * d) - f * l * b * (m * c)) (by omega)
  have b2 : Bd (b * (f * m * d) - (0 - a) * (m * c)) (u + u + v1 + v2 + v3 + w1 + w2 + w3 + 4) := bdw (b * (f * m * d) - (0 - a) * (m * c)) (by omega)
  have b3 : Bd (l * a * (0 - c) - f * l * b * d) (u + u + v1 + v2 + v3 + w1 + w2 + w3 + 4) := bdw (l * a * (0 - c) - f * l * b * d) (by omega)
  have b4 : Bd (b * (0 - c) - (0 - a) * d) (u + u + v1 + v2 + v3 + w1 + w2 + w3 + 4) := bdw (b * (0 - c) - (0 - a) * d) (by omega)
  have b5 : Bd (f * (a * a + f * b * b - l * l)) (2 * (u + v1 + v2 + v3) + 2) := bdw (f * (a * a + f * b * b - l * l)) (by omega)
  have b6 : Bd (f * (c * c + f * d * d - m * m)) (2 * (u + w1 + w2 + w3) + 2) := bdw (f * (c * c + f * d * d - m * m)) (by omega)
  have e3 := l_sign4 k (l * a * (f * m * d) - f * l * b * (m * c)) (b * (f * m * d) - (0 - a) * (m * c)) (l * a * (0 - c) - f * l * b * d) (b * (0 - c) - (0 - a) * d) (f * (a * a + f * b * b - l * l)) (f * (c * c + f * d * d - m * m)) (w1 := u + u + v1 + v2 + v3 + w1 + w2 + w3 + 4) (w2 := u + u + v1 + v2 + v3 + w1 + w2 + w3 + 4) (w3 := u + u + v1 + v2 + v3 + w1 + w2 + w3 + 4) (w4 := u + u + v1 + v2 + v3 + w1 + w2 + w3 + 4) (w5 := 2 * (u + v1 + v2 + v3) + 2) (w6 := 2 * (u + w1 + w2 + w3) + 2) (by omega)
  have q1 : l * a * (f * m * d) - f * l * b * (m * c) = f * l * m * crs a b c d := by grind
  have q2 : b * (f * m * d) - (0 - a) * (m * c) = m * prd f a b c d := by grind
  have q3 : l * a * (0 - c) - f * l * b * d = -l * prd f a b c d := by grind
  have q4 : b * (0 - c) - (0 - a) * d = crs a b c d := by grind
  unfold sn
  rw [← q1, ← q2, ← q3, ← q4]
  simp only [Int.zero_sub] at e1 e2 e3 ⊢
  simp (disch := omega) [e1, e2, e3]
theorem l_cosine (k : Nat) (f a b l c d m : Int) {u v1 v2 v3 w1 w2 w3 : Nat} [Bd f u] [Bd a v1] [Bd b v2] [Bd l v3] [Bd c w1] [Bd d w2] [Bd m w3] (h : u + v1 + v2 + v3 + w1 + w2 + w3 < 9500) (hs : u + v1 + v2 + v3 < 8500) (hs2 : u + w1 + w2 + w3 < 8500) (hu : u < 10) :
    (sm (k + 4)).call 60 [.d (A4 f a b l), .d (A4 f c d m)] = re (.d (.int (cs f a b l c d m))) := by
  rw [r__law_cosine, c__law_cosine]
  have e1 := l_arrow (k + 1) f a b l (u := u) (v1 := v1) (v2 := v2) (w := v3) (by omega)
  have e2 := l_arrow (k + 1) f c d m (u := u) (v1 := w1) (v2 := w2) (w := w3) (by omega)
  have b1 : Bd (f * (l * a) * (m * c) + f * l * b * (f * m * d)) (u + u + v1 + v2 + v3 + w1 + w2 + w3 + 4) := bdw (f * (l * a) * (m * c) + f * l * b * (f * m * d)) (by omega)
  have b2 : Bd (f * b * (m * c) + (0 - a) * (f * m * d)) (u + u + v1 + v2 + v3 + w1 + w2 + w3 + 4) := bdw (f * b * (m * c) + (0 - a) * (f * m * d)) (by omega)
  have b3 : Bd (f * (l * a) * d + f * l * b * (0 - c)) (u + u + v1 + v2 + v3 + w1 + w2 + w3 + 4) := bdw (f * (l * a) * d + f * l * b * (0 - c)) (by omega)
  have b4 : Bd (f * b * d + (0 - a) * (0 - c)) (u + u + v1 + v2 + v3 + w1 + w2 + w3 + 4) := bdw (f * b * d + (0 - a) * (0 - c)) (by omega)
  have b5 : Bd (f * (a * a + f * b * b - l * l)) (2 * (u + v1 + v2 + v3) + 2) := bdw (f * (a * a + f * b * b - l * l)) (by omega)
  have b6 : Bd (f * (c * c + f * d * d - m * m)) (2 * (u + w1 + w2 + w3) + 2) := bdw (f * (c * c + f * d * d - m * m)) (by omega)
  have e3 := l_sign4 k (f * (l * a) * (m * c) + f * l * b * (f * m * d)) (f * b * (m * c) + (0 - a) * (f * m * d)) (f * (l * a) * d + f * l * b * (0 - c)) (f * b * d + (0 - a) * (0 - c)) (f * (a * a + f * b * b - l * l)) (f * (c * c + f * d * d - m * m)) (w1 := u + u + v1 + v2 + v3 + w1 + w2 + w3 + 4) (w2 := u + u + v1 + v2 + v3 + w1 + w2 + w3 + 4) (w3 := u + u + v1 + v2 + v3 + w1 + w2 + w3 + 4) (w4 := u + u + v1 + v2 + v3 + w1 + w2 + w3 + 4) (w5 := 2 * (u + v1 + v2 + v3) + 2) (w6 := 2 * (u + w1 + w2 + w3) + 2) (by omega)
  have q1 : f * (l * a) * (m * c) + f * l * b * (f * m * d) = f * l * m * prd f a b c d := by grind
  have q2 : f * b * (m * c) + (0 - a) * (f * m * d) = -f * m * crs a b c d := by grind
  have q3 : f * (l * a) * d + f * l * b * (0 - c) = f * l * crs a b c d := by grind
  have q4 : f * b * d + (0 - a) * (0 - c) = prd f a b c d := by grind
  unfold cs
  rw [← q1, ← q2, ← q3, ← q4]
  simp only [Int.zero_sub] at e1 e2 e3 ⊢
  simp (disch := omega) [e1, e2, e3]
theorem l_same (k : Nat) (f a b l c d m : Int) {u v1 v2 v3 w1 w2 w3 : Nat} [Bd f u] [Bd a v1] [Bd b v2] [Bd l v3] [Bd c w1] [Bd d w2] [Bd m w3] (h : u + v1 + v2 + v3 + w1 + w2 + w3 < 9500) (hs : u + v1 + v2 + v3 < 8500) (hs2 : u + w1 + w2 + w3 < 8500) (hu : u < 10) :
    (sm (k + 5)).call 61 [.d (A4 f a b l), .d (A4 f c d m)] = re (.d (.bool (one f a b l c d m))) := by
  rw [r__law_is_same, c__law_is_same]
  have e1 := l_sine k f a b l c d m h hs hs2 hu
  have e2 := l_cosine k f a b l c d m h hs hs2 hu
  unfold one
  by_cases c0 : sn f a b l c d m = 0 <;> simp [e1, e2, c0]
theorem l_half (k : Nat) (f a b l : Int) {u v1 v2 v3 : Nat} [Bd f u] [Bd a v1] [Bd b v2] [Bd l v3] (h : u + v1 + v2 + v3 < 8500) : (sm (k + 4)).call 62 [.d (A4 f a b l)] = re (.d (.int (Geo.half f a b l))) := by
  rw [r__law_half, c__law_half]
  have e1 := l_side k f a b l 0 1 0 (u := u) (v1 := v1) (v2 := v2) (w := v3) (by omega)
  have e2 := l_side k f a b l 1 0 0 (u := u) (v1 := v1) (v2 := v2) (w := v3) (by omega)
  unfold Geo.half
  rw [← sg_g]
  by_cases c0 : 0 < sg f a b l 0 1 0 <;> by_cases c1 : sg f a b l 0 1 0 = 0 <;> by_cases c2 : 0 < sg f a b l 1 0 0 <;> simp [e1, e2, c0, c1, c2]
theorem l_before (k : Nat) (f a b l c d m : Int) {u v1 v2 v3 w1 w2 w3 : Nat} [Bd f u] [Bd a v1] [Bd b v2] [Bd l v3] [Bd c w1] [Bd d w2] [Bd m w3] (h : u + v1 + v2 + v3 + w1 + w2 + w3 < 9500) (hs : u + v1 + v2 + v3 < 8500) (hs2 : u + w1 + w2 + w3 < 8500) (hu : u < 10) :
    (sm (k + 5)).call 63 [.d (A4 f a b l), .d (A4 f c d m)] = re (.d (.bool (Geo.lbef f a b l c d m))) := by
  rw [r__law_is_before, c__law_is_before]
  have e1 := l_half k f a b l hs
  have e2 := l_half k f c d m hs2
  have e3 := l_sine k f a b l c d m h hs hs2 hu
  unfold Geo.lbef
  rw [← sn_g]
  by_cases c0 : Geo.half f a b l = Geo.half f c d m <;> simp [e1, e2, e3, c0]
theorem l_between (k : Nat) (f a b l c d m x y z : Int) {u v1 v2 v3 w1 w2 w3 t1 t2 t3 : Nat} [Bd f u] [Bd a v1] [Bd b v2] [Bd l v3] [Bd c w1] [Bd d w2] [Bd m w3] [Bd x t1] [Bd y t2] [Bd z t3] (hu : u < 10) (h1 : v1 + v2 + v3 < 8400) (h2 : w1 + w2 + w3 < 1000) (h3 : t1 + t2 + t3 < 1000) :
    (sm (k + 6)).call 64 [.d (A4 f a b l), .d (A4 f c d m), .d (A4 f x y z)] = re (.d (.bool (Geo.lbtw f a b l c d m x y z))) := by
  rw [r__law_is_between, c__law_is_between]
  have e1 := l_same k f a b l c d m (u := u) (v1 := v1) (v2 := v2) (v3 := v3) (w1 := w1) (w2 := w2) (w3 := w3) (by omega) (by omega) (by omega) hu
  have e2 := l_same k f a b l x y z (u := u) (v1 := v1) (v2 := v2) (v3 := v3) (w1 := t1) (w2 := t2) (w3 := t3) (by omega) (by omega) (by omega) hu
  have e3 := l_same k f c d m x y z (u := u) (v1 := w1) (v2 := w2) (v3 := w3) (w1 := t1) (w2 := t2) (w3 := t3) (by omega) (by omega) (by omega) hu
  have e4 := l_before k f c d m x y z (u := u) (v1 := w1) (v2 := w2) (v3 := w3) (w1 := t1) (w2 := t2) (w3 := t3) (by omega) (by omega) (by omega) hu
  have e5 := l_before k f c d m a b l (u := u) (v1 := w1) (v2 := w2) (v3 := w3) (w1 := v1) (w2 := v2) (w3 := v3) (by omega) (by omega) (by omega) hu
  have e6 := l_before k f a b l x y z (u := u) (v1 := v1) (v2 := v2) (v3 := v3) (w1 := t1) (w2 := t2) (w3 := t3) (by omega) (by omega) (by omega) hu
  unfold Geo.lbtw
  rw [← one_g]
  generalize one f a b l c d m = p1 at *
  generalize one f a b l x y z = p2 at *
  generalize one f c d m x y z = p3 at *
  generalize Geo.lbef f c d m x y z = p4 at *
  generalize Geo.lbef f c d m a b l = p5 at *
  generalize Geo.lbef f a b l x y z = p6 at *
  clear h1 h2 h3
  cases p1 with
  | true => simp [e1]
  | false =>
    cases p2 with
    | true => simp [e1, e2]
    | false =>
      cases p3 with
      | true => simp [e1, e2, e3]
      | false =>
        cases p4 <;> cases p5 <;> simp [e1, e2, e3, e4, e5, e6]
end G07

namespace G07
open PySem PySem.Spec PyProof.Rows L2 DL
section
variable {u v1 v2 v3 w1 w2 w3 w : Nat} {f a b l c d m : Int}
abbrev wwI : List Sx := [.iff (.and [.cmp .ne (.var 4) (.tup [.cI 0, .cI 0]), .call 27 [.call 20 [.idx (.var 0) (.cI 0), .var 4], .var 0, .var 1]]) [.ret (.call 4 [.var 4])] []]
abbrev wwB : List Sx := [.par [5, 6] [.call 28 [.var 0, .var 2], .call 28 [.var 1, .var 2]], .set 3 (.tup [.bin .add (.idx (.var 5) (.cI 0)) (.idx (.var 6) (.cI 0)), .bin .add (.idx (.var 5) (.cI 1)) (.idx (.var 6) (.cI 1))]), .fors (.nm 4) .seq [.lst [.var 3, .tup [.neg (.idx (.var 3) (.cI 0)), .neg (.idx (.var 3) (.cI 1))], .tup [.bin .mul (.neg (.idx (.var 0) (.cI 0))) (.idx (.var 5) (.cI 1)), .idx (.var 5) (.cI 0)], .tup [.neg (.idx (.var 5) (.cI 0)), .neg (.idx (.var 5) (.cI 1))]]] wwI, .set 2 (.bin .mul (.cI 2) (.var 2))]
abbrev wE (f a b l c d m : Int) (n : Nat) (w3 w4 w5 w6 : Option W) : Env' := [some (.d (A4 f a b l)), some (.d (A4 f c d m)), some (.d (.int n)), w3, w4, w5, w6]
def wtst (f a b l c d m : Int) (x : PyData) : Bool := match x with
  | .tuple [.int x, .int y] => !(decide (x = 0) && decide (y = 0)) && (match redP [-f * y, x, 0] with
    | [pa, pb, _] => btw f pa pb 0 a b l c d m
    | _ => false)
  | _ => false
def wred (x : PyData) : W := match x with
  | .tuple [.int x, .int y] => .d (.tuple ((redP [x, y]).map PyData.int))
  | _ => .d .none
theorem ww_item (k : Nat) (x y : Int) (w3 w4 w5 w6 : Option W) {n N : Nat} [Bd f 4] [Bd a v1] [Bd b v2] [Bd l v3] [Bd c w1] [Bd d w2] [Bd m w3'] [Bd x N] [Bd y N] (h1 : v1 + v2 + v3 < 880) (h2 : w1 + w2 + w3' < 880) (hN : N ≤ 4150) :
    (wtst f a b l c d m (V2 x y) = true → exSs (sm (k + 7 + 1)) wwI (wE f a b l c d m n w3 (some (.d (V2 x y))) w5 w6) = re (.rt (wred (V2 x y)))) ∧
    (wtst f a b l c d m (V2 x y) = false → exSs (sm (k + 7 + 1)) wwI (wE f a b l c d m n w3 (some (.d (V2 x y))) w5 w6) = re (.nx (wE f a b l c d m n w3 (some (.d (V2 x y))) w5 w6))) := by
  obtain ⟨g, pa, pb, hg, e1, e2, er, bpa, bpb, ep⟩ := e_place_of (k + 5) f x y (u := 4) (v1 := N) (v2 := N) (by omega)
  have bpa' : Bd pa (4 + N) := ⟨by
    have h1 : (-f * y).natAbs < 2 ^ (4 + N) := (bdw (-f * y) (w := 4 + N) (by omega)).h
    rw [e1, Int.natAbs_mul, Int.natAbs_natCast] at h1
    have h2 : 1 * pa.natAbs ≤ g * pa.natAbs := Nat.mul_le_mul_right _ hg
    omega⟩
  have bpb' : Bd pb N := ⟨by
    have h1 : x.natAbs < 2 ^ N := (inferInstance : Bd x N).h
    rw [e2, Int.natAbs_mul, Int.natAbs_natCast] at h1
    have h2 : 1 * pb.natAbs ≤ g * pb.natAbs := Nat.mul_le_mul_right _ hg
    omega⟩
  clear bpa bpb
  have el := e_lies (k + 1) f pa pb 0 a b l c d m (u := 4) (v1 := 4 + N) (v2 := N) (v3 := 0) (by omega) (by omega) (by omega) (by omega)
  have bx : Bd x N := inferInstance
  have rr : (sm (k + 7 + 1)).call 4 [.d (.tuple [.int x, .int y])] = re (.d (.tuple ((redP [x, y]).map PyData.int))) := by
    have := e_reduced (k + 6) [x, y] (w := N) (by
      intro z hz
      simp only [List.mem_cons, List.not_mem_nil, or_false] at hz
      rcases hz with rfl | rfl <;> assumption) (by omega) (by simp)
    exact this
  have ew : wtst f a b l c d m (V2 x y) = (!(decide (x = 0) && decide (y = 0)) && btw f pa pb 0 a b l c d m) := by
    unfold wtst
    simp only [er]
  rw [ew]
  have ne : c2 .ne (.tuple [.int x, .int y]) (.tuple [.int 0, .int 0]) = some (!(decide (x = 0) && decide (y = 0))) := by
    simp [c2, eqOk, SeqAt.shaped, PyData.canLay0, PyData.canLayAll0, PyData.depth, PyData.depthAll, PyData.eqv, PyData.eqvAll, beq_int]
  cases hz : (decide (x = 0) && decide (y = 0)) with
  | true => simp [ne, hz]
  | false =>
    cases hb : btw f pa pb 0 a b l c d m <;> simp [ne, hz, ep, el, hb, rr, wred]
theorem bd_near {n : Nat} {X : Int} (h : -(2 ^ n) ≤ X ∧ X ≤ 2 ^ n) : Bd X (n + 1) := ⟨by
  have e : ((2 ^ n : Nat) : Int) = 2 ^ n := by exact_mod_cast rfl
  rw [Nat.pow_succ]
  have := Nat.two_pow_pos n
  omega⟩
abbrev wways (f X Y X' Y' : Int) : List PyData := [V2 (X + X') (Y + Y'), V2 (-(X + X')) (-(Y + Y')), V2 (-f * Y) X, V2 (-X) (-Y)]
theorem ww_body (k : Nat) {n : Nat} (w3 w4 w5 w6 : Option W) [Bd f 4] [Bd a v1] [Bd b v2] [Bd l v3] [Bd c w1] [Bd d w2] [Bd m w3'] (h1 : v1 + v2 + v3 < 880) (h2 : w1 + w2 + w3' < 880) (hn : n ≤ 4096) (hA : Ang f a b l) (hA' : Ang f c d m) :
    ∃ X Y X' Y' : Int, NearW f a b l n X Y ∧ NearW f c d m n X' Y' ∧
      ((∃ x, (wways f X Y X' Y').find? (wtst f a b l c d m) = some x ∧ exSs (sm (k + 7 + 1)) wwB (wE f a b l c d m n w3 w4 w5 w6) = re (.rt (wred x))) ∨
       ((wways f X Y X' Y').find? (wtst f a b l c d m) = none ∧ ∃ z3 z4 z5 z6, exSs (sm (k + 7 + 1)) wwB (wE f a b l c d m n w3 w4 w5 w6) = re (.nx (wE f a b l c d m (2 * n) z3 z4 z5 z6)))) := by
  obtain ⟨X, Y, nw, _, _, e1⟩ := e_near_way (k + 4) f a b l n (u := 4) (v1 := v1) (v2 := v2) (v3 := v3) (by omega) (by omega) hA
  obtain ⟨X', Y', nw', _, _, e2⟩ := e_near_way (k + 4) f c d m n (u := 4) (v1 := w1) (v2 := w2) (v3 := w3') (by omega) (by omega) hA'
  have bX := bd_near (near_bd hA nw).1
  have bY := bd_near (near_bd hA nw).2
  have bX' := bd_near (near_bd hA' nw').1
  have bY' := bd_near (near_bd hA' nw').2
  refine ⟨X, Y, X', Y', nw, nw', ?_⟩
  have mf : o2 .mul (.int (-f)) (.int Y) = some (.int (-f * Y)) := o2_mul_ (by omega)
  have m2 : o2 .mul (.int 2) (.int (n : Int)) = some (.int ((2 * n : Nat) : Int)) := by
    have : Bd (n : Int) 20 := ⟨by
      rw [Int.natAbs_natCast]
      omega⟩
    rw [o2_mul_ (by decide)]
    congr 2
  have key := frW_find (Γ := sm (k + 7 + 1)) (k := .seq) (p := .nm 4) (b := wwI) (ws := [.d (.list (wways f X Y X' Y'))]) (xs := wways f X Y X' Y') (ρ := wE f a b l c d m n (some (.d (V2 (X + X') (Y + Y')))) w4 (some (.d (V2 X Y))) (some (.d (V2 X' Y'))))
    (fun ρ => ∃ w4, ρ = wE f a b l c d m n (some (.d (V2 (X + X') (Y + Y')))) w4 (some (.d (V2 X Y))) (some (.d (V2 X' Y')))) (wtst f a b l c d m) wred (fun _ => rfl) (by show 4 ≤ 100000; decide) ⟨_, rfl⟩ (by
      rintro x hx ρ ⟨w4, rfl⟩
      have shape : ∃ p q : Int, x = V2 p q ∧ Bd p 4110 ∧ Bd q 4110 := by
        simp only [wways, List.mem_cons, List.not_mem_nil, or_false] at hx
        rcases hx with rfl | rfl | rfl | rfl
        · exact ⟨_, _, rfl, bdw _ (by omega), bdw _ (by omega)⟩
        · exact ⟨_, _, rfl, bdw _ (by omega), bdw _ (by omega)⟩
        · exact ⟨_, _, rfl, bdw _ (by omega), bdw _ (by omega)⟩
        · exact ⟨_, _, rfl, bdw _ (by omega), bdw _ (by omega)⟩
      obtain ⟨p, q, rfl, bp, bq⟩ := shape
      obtain ⟨i1, i2⟩ := ww_item (f := f) (a := a) (b := b) (l := l) (c := c) (d := d) (m := m) k p q (some (.d (V2 (X + X') (Y + Y')))) w4 (some (.d (V2 X Y))) (some (.d (V2 X' Y'))) (n := n) h1 h2 (by omega)
      refine ⟨_, by rw [asg_nm], ?_⟩
      cases ht : wtst f a b l c d m (V2 p q) with
      | true => exact .inl ⟨rfl, i1 ht⟩
      | false => exact .inr ⟨rfl, _, ⟨_, rfl⟩, i2 ht⟩)
  rcases key with ⟨x, f1, f2⟩ | ⟨f1, ρ', ⟨w4', rfl⟩, f2⟩
  · refine .inl ⟨x, f1, ?_⟩
    simp [e1, e2, mf, ex_fors, f2]
  · refine .inr ⟨f1, some (.d (V2 (X + X') (Y + Y'))), w4', some (.d (V2 X Y)), some (.d (V2 X' Y')), ?_⟩
    simp [e1, e2, mf, ex_fors, f2, m2]
    rfl
theorem redP_3 (A B C : Int) : ∃ a b c : Int, redP [A, B, C] = [a, b, c] := by
  have hl := redP_len [A, B, C]
  generalize redP [A, B, C] = r at *
  match r, hl with
  | [a, b, c], _ => exact ⟨a, b, c, rfl⟩
theorem redP_z (A B : Int) : ∃ a b : Int, redP [A, B, 0] = [a, b, 0] := by
  obtain ⟨a, b, c, h⟩ := redP_3 A B 0
  obtain ⟨g, hg, e⟩ := redP_eq [A, B, 0]
  rw [h] at e
  simp only [List.map_cons, List.map_nil, List.cons.injEq, and_true] at e
  have : c = 0 := by
    rcases Int.mul_eq_zero.mp e.2.2.symm with q | q
    · omega
    · exact q
  subst this
  exact ⟨a, b, h⟩
theorem redP_neg (A B C : Int) : redP [-A, -B, -C] = (redP [A, B, C]).map fun x => -x := by
  have eg : gcdL [-A, -B, -C] = gcdL [A, B, C] := by simp [gcdL]
  unfold redP
  rw [eg]
  by_cases h : gcdL [A, B, C] = 0
  · rw [if_pos h, if_pos h]
    rfl
  · rw [if_neg h, if_neg h]
    unfold redL
    rw [eg]
    simp only [List.map_cons, List.map_nil, List.cons.injEq, and_true]
    refine ⟨?_, ?_, ?_⟩
    · exact Int.neg_ediv_of_dvd (gcdL_dvd (by simp))
    · exact Int.neg_ediv_of_dvd (gcdL_dvd (by simp))
    · exact Int.neg_ediv_of_dvd (gcdL_dvd (by simp))
end
end G07

namespace G07
open PySem PySem.Spec PyProof.Rows L2 DL
variable {f a b l c d m : Int}
theorem bi_of {x : Int} {w : Nat} (h : Bd x w) : Geo.BI x w := ⟨Nat.le_of_lt h.h⟩
theorem ww_found {X Y X' Y' : Int} (ba : Bd a 225) (bb : Bd b 225) (bl : Bd l 225) (bc : Bd c 225) (bd : Bd d 225) (bm : Bd m 225) (hA : Ang f a b l) (hH : Ang f c d m) (nw : NearW f a b l 4096 X Y) (nw' : NearW f c d m 4096 X' Y') :
    (wways f X Y X' Y').find? (wtst f a b l c d m) ≠ none := by
  intro hn
  rw [List.find?_eq_none] at hn
  obtain ⟨w, hw, h0, h1⟩ := Geo.ways_ok (v := 225) (n := 4096) (ang_g hA) (ang_g hH) (bi_of ba) (bi_of bb) (bi_of bl) (bi_of bc) (bi_of bd) (bi_of bm) (by decide) ⟨nw.ex⟩ ⟨nw'.ex⟩
  have hm : V2 w.1 w.2 ∈ wways f X Y X' Y' := by
    simp only [Geo.wys, List.mem_cons, List.not_mem_nil, or_false] at hw
    rcases hw with rfl | rfl | rfl | rfl <;> simp
  apply hn _ hm
  obtain ⟨pa, pb, er⟩ := redP_z (-f * w.2) w.1
  obtain ⟨g, hg, e⟩ := redP_eq [-f * w.2, w.1, 0]
  rw [er] at e
  simp only [List.map_cons, List.map_nil, List.cons.injEq, and_true] at e
  have hb := h1 g pa pb (by omega) e.1.symm e.2.1.symm
  have hz : (decide (w.1 = 0) && decide (w.2 = 0)) = false := by
    cases q : (decide (w.1 = 0) && decide (w.2 = 0)) with
    | false => rfl
    | true =>
      simp only [Bool.and_eq_true, decide_eq_true_eq] at q
      exact absurd q h0
  unfold wtst
  simp only [er, hz]
  rw [btw_g, hb]
  rfl
theorem ww_loop (k : Nat) (bf : Bd f 4) (ba : Bd a 225) (bb : Bd b 225) (bl : Bd l 225) (bc : Bd c 225) (bd : Bd d 225) (bm : Bd m 225) (hA : Ang f a b l) (hH : Ang f c d m) :
    ∀ (j n fu : Nat) (w3 w4 w5 w6 : Option W), n * 2 ^ j = 4096 → j < fu → ∃ p q : Int, Bd p 4110 ∧ Bd q 4110 ∧ wtst f a b l c d m (V2 p q) = true ∧ whW (sm (k + 7 + 1)) (.cB true) wwB fu (wE f a b l c d m n w3 w4 w5 w6) = re (.rt (wred (V2 p q))) := by
  intro j
  induction j with
  | zero =>
    intro n fu w3 w4 w5 w6 hn hfu
    obtain ⟨fu, rfl⟩ : ∃ g, fu = g + 1 := ⟨fu - 1, by omega⟩
    have hn : n = 4096 := by simpa using hn
    subst hn
    obtain ⟨X, Y, X', Y', nw, nw', hc⟩ := ww_body (f := f) (a := a) (b := b) (l := l) (c := c) (d := d) (m := m) k (n := 4096) w3 w4 w5 w6 (v1 := 225) (v2 := 225) (v3 := 225) (w1 := 225) (w2 := 225) (w3' := 225) (by decide) (by decide) (by decide) hA hH
    rcases hc with ⟨x, f1, f2⟩ | ⟨f1, _⟩
    · have hx := List.mem_of_find?_eq_some f1
      have ht := List.find?_some f1
      have bX := bd_near (near_bd hA nw).1
      have bY := bd_near (near_bd hA nw).2
      have bX' := bd_near (near_bd hH nw').1
      have bY' := bd_near (near_bd hH nw').2
      have shape : ∃ p q : Int, x = V2 p q ∧ Bd p 4110 ∧ Bd q 4110 := by
        simp only [wways, List.mem_cons, List.not_mem_nil, or_false] at hx
        rcases hx with rfl | rfl | rfl | rfl
        · exact ⟨_, _, rfl, bdw _ (by omega), bdw _ (by omega)⟩
        · exact ⟨_, _, rfl, bdw _ (by omega), bdw _ (by omega)⟩
        · exact ⟨_, _, rfl, bdw _ (by omega), bdw _ (by omega)⟩
        · exact ⟨_, _, rfl, bdw _ (by omega), bdw _ (by omega)⟩
      obtain ⟨p, q, rfl, bp, bq⟩ := shape
      exact ⟨p, q, bp, bq, ht, whW_ret (by simp) f2⟩
    · exact absurd f1 (ww_found ba bb bl bc bd bm hA hH nw nw')
  | succ j ih =>
    intro n fu w3 w4 w5 w6 hn hfu
    obtain ⟨fu, rfl⟩ : ∃ g, fu = g + 1 := ⟨fu - 1, by omega⟩
    have hn2 : (2 * n) * 2 ^ j = 4096 := by rw [← hn, Nat.pow_succ]; grind
    have hle : n ≤ 4096 := by
      have := Nat.two_pow_pos (j + 1)
      rw [← hn]
      exact Nat.le_mul_of_pos_right n this
    obtain ⟨X, Y, X', Y', nw, nw', hc⟩ := ww_body (f := f) (a := a) (b := b) (l := l) (c := c) (d := d) (m := m) k (n := n) w3 w4 w5 w6 (v1 := 225) (v2 := 225) (v3 := 225) (w1 := 225) (w2 := 225) (w3' := 225) (by decide) (by decide) hle hA hH
    rcases hc with ⟨x, f1, f2⟩ | ⟨f1, z3, z4, z5, z6, f2⟩
    · have hx := List.mem_of_find?_eq_some f1
      have ht := List.find?_some f1
      have bX := bd_near (near_bd hA nw).1
      have bY := bd_near (near_bd hA nw).2
      have bX' := bd_near (near_bd hH nw').1
      have bY' := bd_near (near_bd hH nw').2
      have shape : ∃ p q : Int, x = V2 p q ∧ Bd p 4110 ∧ Bd q 4110 := by
        simp only [wways, List.mem_cons, List.not_mem_nil, or_false] at hx
        rcases hx with rfl | rfl | rfl | rfl
        · exact ⟨_, _, rfl, bdw _ (by omega), bdw _ (by omega)⟩
        · exact ⟨_, _, rfl, bdw _ (by omega), bdw _ (by omega)⟩
        · exact ⟨_, _, rfl, bdw _ (by omega), bdw _ (by omega)⟩
        · exact ⟨_, _, rfl, bdw _ (by omega), bdw _ (by omega)⟩
      obtain ⟨p, q, rfl, bp, bq⟩ := shape
      exact ⟨p, q, bp, bq, ht, whW_ret (by simp) f2⟩
    · obtain ⟨p, q, bp, bq, ht, e⟩ := ih (2 * n) fu z3 z4 z5 z6 hn2 (by omega)
      exact ⟨p, q, bp, bq, ht, by rw [whW_go (by simp) f2]; exact e⟩
theorem e_way_within (k : Nat) (bf : Bd f 4) (ba : Bd a 225) (bb : Bd b 225) (bl : Bd l 225) (bc : Bd c 225) (bd : Bd d 225) (bm : Bd m 225) (hA : Ang f a b l) (hH : Ang f c d m) :
    ∃ p q : Int, Bd p 4110 ∧ Bd q 4110 ∧ wtst f a b l c d m (V2 p q) = true ∧ (sm (k + 7 + 1 + 1)).call 29 [.d (A4 f a b l), .d (A4 f c d m)] = re (wred (V2 p q)) := by
  rw [r_way_within, c_way_within]
  obtain ⟨p, q, bp, bq, ht, e⟩ := ww_loop k bf ba bb bl bc bd bm hA hH 9 8 (2 ^ 40) none none none none (by decide) (by decide)
  refine ⟨p, q, bp, bq, ht, ?_⟩
  have hw2 : whW (sm (k + 8)) (.cB true) wwB 1099511627776 [some (.d (A4 f a b l)), some (.d (A4 f c d m)), some (.d (.int 8)), none, none, none, none] = re (.rt (wred (V2 p q))) := e
  simp [ex_whl, FU, hw2, wred]
end G07

namespace G07
open PySem PySem.Spec PyProof.Rows L2 DL
variable {f a b l p q r s : Int} {x y : PyData}
theorem e_turn_sign (k : Nat) (p q r s : Int) {v1 v2 w1 w2 : Nat} [Bd p v1] [Bd q v2] [Bd r w1] [Bd s w2] (h : v1 + v2 + w1 + w2 < 1000) : (sm (k + 2)).call 36 [.d (V2 p q), .d (V2 r s)] = re (.d (.int (Geo.tsg p q r s))) := by
  rw [r_turn_sign, c_turn_sign]
  have e := e_sign_of k (q * r - s * p)
  unfold Geo.tsg
  have ne : ∀ u v : Bool, c2 .ne (.bool u) (.bool v) = some (!decide (u = v)) := fun u v => by cases u <;> cases v <;> rfl
  by_cases c1 : q < 0 <;> by_cases c2 : s < 0 <;> simp (disch := omega) [e, c1, c2, ne]
def GT (d : PyData) : Prop := ∃ p q : Int, d = V2 p q ∧ turnB p q = true ∧ Bd p 41 ∧ Bd q 41
def GB (f : Int) (d : PyData) : Prop := ∃ a b l : Int, d = A4 f a b l ∧ Ang f a b l ∧ Bd f 4 ∧ Bd a 225 ∧ Bd b 225 ∧ Bd l 225
theorem turn_g (h : turnB p q = true) : Geo.TurnG p q := by
  unfold turnB at h
  simp at h
  unfold Geo.TurnG
  omega
theorem is_T2 (k : Nat) (h : GT x) : (sm (k + 3)).call 12 [.d x] = re (.d (.bool true)) := by
  obtain ⟨p, q, rfl, ht, _, _⟩ := h
  rw [g_is_turn2, ht]
theorem cT_ok (k : Nat) (h : GT x) : (sm (k + 4)).call 16 [.d x] = re (.d .none) := by
  rw [r_check_turn, c_check_turn]
  simp [is_T2 k h]
theorem cA_ok (k : Nat) (h : GB f x) : (sm (k + 4)).call 15 [.d x] = re (.d .none) := by
  obtain ⟨a, b, l, rfl, hA, bf, ba, bb, bl⟩ := h
  exact e_check_angle k f a b l (u := 4) (v1 := 225) (v2 := 225) (w := 225) (by omega) hA
theorem cO_ok (k : Nat) (h : GB f x) : (sm (k + 1)).call 18 [.d x, .d (.int f)] = re (.d .none) := by
  obtain ⟨a, b, l, rfl, _⟩ := h
  exact e_check_form_of k f a b l
theorem at0 (h : GB f x) : atD x (.int 0) = some (.int f) := by
  obtain ⟨a, b, l, rfl, _⟩ := h
  simp
theorem e_compare_turns (k : Nat) (h : turnB p q = true) (h2 : turnB r s = true) (bp : Bd p 41) (bq : Bd q 41) (br : Bd r 41) (bs : Bd s 41) : (sm (k + 5)).call 39 [.d (V2 p q), .d (V2 r s)] = re (.d (.int (Geo.tsg p q r s))) := by
  rw [r_compare_turns, c_compare_turns]
  have e := e_turn_sign (k + 2) p q r s (by omega)
  simp [cT_ok k ⟨p, q, rfl, h, bp, bq⟩, cT_ok k ⟨r, s, rfl, h2, br, bs⟩, e]
abbrev tA (f a b p q : Int) : Int := (p * p - f * q * q) * a - f * (2 * p * q) * b
abbrev tB (f a b p q : Int) : Int := 2 * p * q * a + (p * p - f * q * q) * b
abbrev tL (f l p q : Int) : Int := l * (p * p + f * q * q)
theorem tn_norm : tA f a b p q * tA f a b p q + f * tB f a b p q * tB f a b p q = (p * p + f * q * q) * (p * p + f * q * q) * (a * a + f * b * b) := by grind
theorem tn_pos (hf : 1 ≤ f) (h : Geo.TurnG p q) : 0 < p * p + f * q * q := norm_pos hf (by unfold Geo.TurnG at h; omega)
theorem tn_lt (hA : Ang f a b l) (h : Geo.TurnG p q) : tL f l p q * tL f l p q < tA f a b p q * tA f a b p q + f * tB f a b p q * tB f a b p q := by
  rw [tn_norm]
  have hp := tn_pos hA.f1 h
  have := hA.n
  have e : tL f l p q * tL f l p q = (p * p + f * q * q) * (p * p + f * q * q) * (l * l) := by grind
  rw [e]
  exact Int.mul_lt_mul_of_pos_left this (Int.mul_pos hp hp)
end G07

namespace G07
open PySem PySem.Spec PyProof.Rows L2 DL
variable {f a b l p q r s : Int} {x y : PyData}
theorem e_turned_by (k : Nat) {f a b p q : Int} {u v1 v2 w1 w2 : Nat} [Bd f u] [Bd a v1] [Bd b v2] [Bd p w1] [Bd q w2] (h : u + v1 + v2 + w1 + w2 < 10000) : (sm (k + 1)).call 30 [.d (.int f), .d (V2 a b), .d (V2 p q)] =
    re (.d (V2 (tA f a b p q) (tB f a b p q))) := by
  rw [r_turned_by, c_turned_by]
  simp (disch := omega)
theorem e_factor_of (k : Nat) {f p q : Int} {u w1 w2 : Nat} [Bd f u] [Bd p w1] [Bd q w2] (h : u + w1 + w2 < 10000) : (sm (k + 1)).call 31 [.d (.int f), .d (V2 p q)] = re (.d (.int (p * p + f * q * q))) := by
  rw [r_factor_of, c_factor_of]
  simp (disch := omega)
structure Tn (f a b l p q a' b' l' : Int) (g : Nat) : Prop where
  er : redP [tA f a b p q, tB f a b p q, tL f l p q] = [a', b', l']
  hg : 0 < g
  ea : tA f a b p q = g * a'
  eb : tB f a b p q = g * b'
  el : tL f l p q = g * l'
  ang : Ang f a' b' l'
  ba : Bd a' 320
  bb : Bd b' 320
  bl : Bd l' 320
theorem e_turned (k : Nat) (hA : Ang f a b l) (bf : Bd f 4) (ba : Bd a 225) (bb : Bd b 225) (bl : Bd l 225) (ht : Geo.TurnG p q) (bp : Bd p 41) (bq : Bd q 41) :
    ∃ (g : Nat) (a' b' l' : Int), Tn f a b l p q a' b' l' g ∧ (sm (k + 3)).call 37 [.d (A4 f a b l), .d (V2 p q)] = re (.d (A4 f a' b' l')) ∧ (sm (k + 3)).call 67 [.d (A4 f a b l), .d (V2 p q)] = re (.d (A4 f a' b' l')) := by
  have b1 : Bd (tA f a b p q) 320 := bdw ((p * p - f * q * q) * a - f * (2 * p * q) * b) (by omega)
  have b2 : Bd (tB f a b p q) 320 := bdw (2 * p * q * a + (p * p - f * q * q) * b) (by omega)
  have b3 : Bd (tL f l p q) 320 := bdw (l * (p * p + f * q * q)) (by omega)
  obtain ⟨g, a', b', l', hg, ea, eb, el, er, c1, c2, c3, e⟩ := e_reduced3 k (tA f a b p q) (tB f a b p q) (tL f l p q) b1 b2 b3 (by omega)
  have hlt := tn_lt hA ht
  have hgL : gcdL [tA f a b p q, tB f a b p q, tL f l p q] ≠ 0 := by
    intro h0
    have h1 := gcdL_zero h0 (tA f a b p q) (by simp)
    have h2 := gcdL_zero h0 (tB f a b p q) (by simp)
    rw [h1, h2] at hlt
    have := sqnn (tL f l p q)
    simp at hlt
    omega
  have hpos : 0 < gcdL [tA f a b p q, tB f a b p q, tL f l p q] := Nat.pos_of_ne_zero hgL
  have eL : redP [tA f a b p q, tB f a b p q, tL f l p q] = redL [tA f a b p q, tB f a b p q, tL f l p q] := by
    unfold redP
    rw [if_neg hgL]
  have er0 := er
  rw [eL] at er
  have ang : Ang f a' b' l' := by
    refine ⟨hA.f1, hA.f3, ?_, ?_⟩
    · have := redL_one hpos
      rw [er] at this
      exact this
    · rw [ea, eb, el] at hlt
      have e1 : (g : Int) * l' * (g * l') = g * g * (l' * l') := by grind
      have e2 : (g : Int) * a' * (g * a') + f * (g * b') * (g * b') = g * g * (a' * a' + f * b' * b') := by grind
      rw [e1, e2] at hlt
      exact Int.lt_of_mul_lt_mul_left hlt (Int.mul_nonneg (by omega) (by omega))
  have el2 := l_reduced k [tA f a b p q, tB f a b p q, tL f l p q] (w := 320) (by
    intro z hz
    simp only [List.mem_cons, List.not_mem_nil, or_false] at hz
    rcases hz with rfl | rfl | rfl <;> assumption) (by omega) (by simp) hpos
  rw [er] at el2
  simp only [List.map_cons, List.map_nil] at el2
  refine ⟨g, a', b', l', ⟨er0, hg, ea, eb, el, ang, c1, c2, c3⟩, ?_, ?_⟩
  · rw [r_turned_on, c_turned_on]
    have m : o2 .mul (.int l) (.int (p * p + f * q * q)) = some (.int (l * (p * p + f * q * q))) := o2_mul_ (by omega)
    simp [e_turned_by (k + 1) (f := f) (a := a) (b := b) (p := p) (q := q) (by omega), e_factor_of (k + 1) (f := f) (p := p) (q := q) (by omega), m, e]
  · rw [r__law_turned, c__law_turned]
    have q3 : (p * p + f * q * q) * l = tL f l p q := Int.mul_comm _ _
    have el3 : (sm (k + 2)).call 51 [.d (.tuple [.int ((p * p - f * q * q) * a - f * (2 * p * q) * b), .int (2 * p * q * a + (p * p - f * q * q) * b), .int ((p * p + f * q * q) * l)])] = re (.d (.tuple [.int a', .int b', .int l'])) := by
      rw [q3]
      exact el2
    have ad : o2 .add (.tuple [.int f]) (.tuple [.int a', .int b', .int l']) = some (A4 f a' b' l') := o2_addT_ _ _ (by simp)
    simp (disch := omega) [el3, ad]
theorem e_turned' (hA : Ang f a b l) (bf : Bd f 4) (ba : Bd a 225) (bb : Bd b 225) (bl : Bd l 225) (ht : Geo.TurnG p q) (bp : Bd p 41) (bq : Bd q 41) :
    ∃ (g : Nat) (a' b' l' : Int), Tn f a b l p q a' b' l' g ∧ ∀ k, (sm (k + 3)).call 37 [.d (A4 f a b l), .d (V2 p q)] = re (.d (A4 f a' b' l')) ∧ (sm (k + 3)).call 67 [.d (A4 f a b l), .d (V2 p q)] = re (.d (A4 f a' b' l')) := by
  obtain ⟨g, a', b', l', t, _⟩ := e_turned 0 hA bf ba bb bl ht bp bq
  refine ⟨g, a', b', l', t, fun k => ?_⟩
  obtain ⟨g2, a2, b2, l2, t2, e⟩ := e_turned k hA bf ba bb bl ht bp bq
  have := t.er.symm.trans t2.er
  simp only [List.cons.injEq, and_true] at this
  obtain ⟨rfl, rfl, rfl⟩ := this
  exact e
theorem Tn.gb (h : Tn f a b l p q a' b' l' g) : Geo.AngG f a' b' l' := ang_g h.ang
end G07

namespace G07
open PySem PySem.Spec PyProof.Rows L2 DL
variable {f a b l c d m p q r s : Int} {x y : PyData}
theorem ang_up (hf : 1 ≤ f) (hf3 : f ≤ 3) : Ang f 0 1 0 := ⟨hf, hf3, by decide, by simp; omega⟩
theorem l_size_sign (k : Nat) (hf : 1 ≤ f) (hf3 : f ≤ 3) (bf : Bd f 4) (h1 : Geo.TurnG p q) (h2 : Geo.TurnG r s) (bp : Bd p 41) (bq : Bd q 41) (br : Bd r 41) (bs : Bd s 41) :
    (sm (k + 6)).call 68 [.d (.int f), .d (V2 p q), .d (V2 r s)] = re (.d (.int (Geo.tsg p q r s))) := by
  have z0 : Bd (0 : Int) 225 := ⟨by decide⟩
  have z1 : Bd (1 : Int) 225 := ⟨by decide⟩
  have hA := ang_up hf hf3
  obtain ⟨g, A, B, L, t1, _, e1⟩ := e_turned (k + 2) hA bf z0 z1 z0 h1 bp bq
  obtain ⟨g', A', B', L', t2, _, e2⟩ := e_turned (k + 2) hA bf z0 z1 z0 h2 br bs
  clear z0 z1
  have l0 : ∀ {x : Int} {g : Nat}, 0 < g → (0 : Int) * x = g * L → L = 0 := fun hg e => by
    rw [Int.zero_mul] at e
    rcases Int.mul_eq_zero.1 e.symm with h | h <;> omega
  have hL : L = 0 := l0 t1.hg t1.el
  have hL' : L' = 0 := by
    have e := t2.el
    have e : (0 : Int) * (r * r + f * s * s) = g' * L' := e
    rw [Int.zero_mul] at e
    have := t2.hg
    rcases Int.mul_eq_zero.1 e.symm with h | h <;> omega
  subst hL; subst hL'
  have k1 : (g : Int) * A = -f * (2 * p * q) := by have := t1.ea; grind
  have k2 : (g : Int) * B = p * p - f * q * q := by have := t1.eb; grind
  have k3 : (g' : Int) * A' = -f * (2 * r * s) := by have := t2.ea; grind
  have k4 : (g' : Int) * B' = r * r - f * s * s := by have := t2.eb; grind
  have := t1.ba; have := t1.bb; have := t2.ba; have := t2.bb
  have key := Geo.turn_sizes t1.gb t2.gb h1 h2 (by have := t1.hg; omega) k1 k2 (by have := t2.hg; omega) k3 k4
  have o1 := l_same k f A B 0 A' B' 0 (u := 4) (v1 := 320) (v2 := 320) (v3 := 0) (w1 := 320) (w2 := 320) (w3 := 0) (by omega) (by omega) (by omega) (by omega)
  have o2 := l_before k f A B 0 A' B' 0 (u := 4) (v1 := 320) (v2 := 320) (v3 := 0) (w1 := 320) (w2 := 320) (w3 := 0) (by omega) (by omega) (by omega) (by omega)
  rw [Geo.lbef_eq t1.gb t2.gb] at o2
  rw [one_g] at o1
  rw [key, r__law_size_sign, c__law_size_sign]
  cases c1 : Geo.one f A B 0 A' B' 0 <;> cases c2 : Geo.bef f A B 0 A' B' 0 <;> rw [c1] at o1 <;> rw [c2] at o2 <;> simp [e1, e2, o1, o2]
def gsg (f a b l c d m p q a' b' l' : Int) : Int := if one f a' b' l' c d m = true then 0 else if one f a b l c d m = true then -1 else if ¬ (p = 1 ∧ q = 0) ∧ btw f c d m a b l a' b' l' = true then -1 else 1
theorem tn_none {g : Nat} {a' b' l' : Int} (hA : Ang f a b l) (h : Tn f a b l 1 0 a' b' l' g) : a' = a ∧ b' = b ∧ l' = l := by
  have ea : (g : Int) * a' = a := by have := h.ea; grind
  have eb : (g : Int) * b' = b := by have := h.eb; grind
  have el : (g : Int) * l' = l := by have := h.el; grind
  have hd : g ∣ gcdL [a, b, l] := by
    have d1 : g ∣ a.natAbs := by rw [← ea, Int.natAbs_mul, Int.natAbs_natCast]; exact Nat.dvd_mul_right _ _
    have d2 : g ∣ b.natAbs := by rw [← eb, Int.natAbs_mul, Int.natAbs_natCast]; exact Nat.dvd_mul_right _ _
    have d3 : g ∣ l.natAbs := by rw [← el, Int.natAbs_mul, Int.natAbs_natCast]; exact Nat.dvd_mul_right _ _
    show g ∣ Nat.gcd (Nat.gcd (Nat.gcd 0 a.natAbs) b.natAbs) l.natAbs
    exact Nat.dvd_gcd (Nat.dvd_gcd (Nat.dvd_gcd (Nat.dvd_zero _) d1) d2) d3
  rw [hA.g] at hd
  have : g = 1 := Nat.dvd_one.1 hd
  subst this
  exact ⟨by omega, by omega, by omega⟩
theorem e_gap_sign (k : Nat) {g : Nat} {a' b' l' : Int} (hA : Ang f a b l) (bf : Bd f 4) (ba : Bd a 225) (bb : Bd b 225) (bl : Bd l 225) (bc : Bd c 320) (bd : Bd d 320) (bm : Bd m 320) (h : Tn f a b l p q a' b' l' g)
    (e : (sm (k + 7)).call 37 [.d (A4 f a b l), .d (V2 p q)] = re (.d (A4 f a' b' l'))) : (sm (k + 8)).call 38 [.d (A4 f a b l), .d (A4 f c d m), .d (V2 p q)] = re (.d (.int (gsg f a b l c d m p q a' b' l'))) := by
  have := h.ba; have := h.bb; have := h.bl
  have o1 := e_are_one (k + 2) f a' b' l' c d m (u := 4) (v1 := 320) (v2 := 320) (v3 := 320) (w1 := 320) (w2 := 320) (w3 := 320) (by omega) (by omega) (by omega)
  have o2 := e_are_one (k + 2) f a b l c d m (u := 4) (v1 := 225) (v2 := 225) (v3 := 225) (w1 := 320) (w2 := 320) (w3 := 320) (by omega) (by omega) (by omega)
  have o3 := e_lies k f c d m a b l a' b' l' (u := 4) (v1 := 320) (v2 := 320) (v3 := 320) (w1 := 225) (w2 := 225) (w3 := 225) (t1 := 320) (t2 := 320) (t3 := 320) (by omega) (by omega) (by omega) (by omega)
  have ne : c2 .ne (.tuple [.int p, .int q]) (.tuple [.int 1, .int 0]) = some (!(decide (p = 1) && decide (q = 0))) := by
    simp [c2, eqOk, SeqAt.shaped, PyData.canLay0, PyData.canLayAll0, PyData.depth, PyData.depthAll, PyData.eqv, PyData.eqvAll, beq_int]
  obtain ⟨B, hB⟩ : ∃ B, (decide (p = 1) && decide (q = 0)) = B := ⟨_, rfl⟩
  rw [hB] at ne
  have pe : (p = 1 ∧ q = 0) ↔ B = true := by rw [← hB]; simp
  rw [r_gap_sign, c_gap_sign]
  unfold gsg
  simp only [pe]
  generalize one f a' b' l' c d m = u1 at *
  generalize one f a b l c d m = u2 at *
  generalize btw f c d m a b l a' b' l' = u3 at *
  cases u1 with
  | true => simp [e, o1]
  | false =>
    cases u2 with
    | true => simp [e, o1, o2]
    | false =>
      cases u3 <;> cases B <;> simp [e, o1, o2, o3, ne]
end G07

namespace G07
open PySem PySem.Spec PyProof.Rows L2 DL
variable {f a b l c d m p q r s : Int} {x y : PyData}
theorem l_gap_sign (k : Nat) {g : Nat} {a' b' l' : Int} (hA : Ang f a b l) (hC : Ang f c d m) (bf : Bd f 4) (ba : Bd a 225) (bb : Bd b 225) (bl : Bd l 225) (bc : Bd c 320) (bd : Bd d 320) (bm : Bd m 320) (h : Tn f a b l p q a' b' l' g)
    (e : (sm (k + 6)).call 67 [.d (A4 f a b l), .d (V2 p q)] = re (.d (A4 f a' b' l'))) : (sm (k + 7)).call 69 [.d (A4 f a b l), .d (A4 f c d m), .d (V2 p q)] = re (.d (.int (gsg f a b l c d m p q a' b' l'))) := by
  have := h.ba; have := h.bb; have := h.bl
  have o1 := l_same (k + 1) f a' b' l' c d m (u := 4) (v1 := 320) (v2 := 320) (v3 := 320) (w1 := 320) (w2 := 320) (w3 := 320) (by omega) (by omega) (by omega) (by omega)
  have o2 := l_same (k + 1) f a b l c d m (u := 4) (v1 := 225) (v2 := 225) (v3 := 225) (w1 := 320) (w2 := 320) (w3 := 320) (by omega) (by omega) (by omega) (by omega)
  have o3 := l_between k f c d m a b l a' b' l' (u := 4) (v1 := 320) (v2 := 320) (v3 := 320) (w1 := 225) (w2 := 225) (w3 := 225) (t1 := 320) (t2 := 320) (t3 := 320) (by omega) (by omega) (by omega) (by omega)
  rw [Geo.lbtw_eq (ang_g hC) (ang_g hA) h.gb, ← btw_g] at o3
  have eq : c2 .eq (.tuple [.int p, .int q]) (.tuple [.int 1, .int 0]) = some (decide (p = 1) && decide (q = 0)) := by
    simp [c2, eqOk, SeqAt.shaped, PyData.canLay0, PyData.canLayAll0, PyData.depth, PyData.depthAll, PyData.eqv, PyData.eqvAll, beq_int]
  have tn : (p = 1 ∧ q = 0) → one f a' b' l' c d m = one f a b l c d m := by
    rintro ⟨rfl, rfl⟩
    obtain ⟨rfl, rfl, rfl⟩ := tn_none hA h
    rfl
  obtain ⟨B, hB⟩ : ∃ B, (decide (p = 1) && decide (q = 0)) = B := ⟨_, rfl⟩
  rw [hB] at eq
  have pe : (p = 1 ∧ q = 0) ↔ B = true := by rw [← hB]; simp
  rw [r__law_gap_sign, c__law_gap_sign]
  unfold gsg
  simp only [pe] at tn ⊢
  generalize one f a' b' l' c d m = u1 at *
  generalize one f a b l c d m = u2 at *
  generalize btw f c d m a b l a' b' l' = u3 at *
  cases u1 with
  | true => simp [e, o1]
  | false =>
    cases B with
    | true =>
      have := tn rfl
      subst this
      simp [e, o1, eq]
    | false => cases u2 <;> cases u3 <;> simp [e, o1, o2, o3, eq]
theorem e_compare_gap (k : Nat) {g : Nat} {a' b' l' : Int} (hA : Ang f a b l) (hC : Ang f c d m) (bf : Bd f 4) (ba : Bd a 225) (bb : Bd b 225) (bl : Bd l 225) (bc : Bd c 320) (bd : Bd d 320) (bm : Bd m 320) (ht : turnB p q = true) (bp : Bd p 41) (bq : Bd q 41) (h : Tn f a b l p q a' b' l' g)
    (e : (sm (k + 7)).call 37 [.d (A4 f a b l), .d (V2 p q)] = re (.d (A4 f a' b' l'))) : (sm (k + 9)).call 40 [.d (A4 f a b l), .d (A4 f c d m), .d (V2 p q)] = re (.d (.int (gsg f a b l c d m p q a' b' l'))) := by
  rw [r_compare_gap, c_compare_gap]
  have e1 := e_check_angle (k + 4) f a b l (u := 4) (v1 := 225) (v2 := 225) (w := 225) (by omega) hA
  have e2 := e_check_angle (k + 4) f c d m (u := 4) (v1 := 320) (v2 := 320) (w := 320) (by omega) hC
  have e3 := cT_ok (k + 4) ⟨p, q, rfl, ht, bp, bq⟩
  have e4 := e_check_form_of (k + 7) f c d m
  have e5 := e_gap_sign k (c := c) (d := d) (m := m) hA bf ba bb bl bc bd bm h e
  simp [e1, e2, e3, e4, e5]
end G07

namespace G07
open PySem PySem.Spec PyProof.Rows L2 DL
variable {N : Nat} {S T : Sto} {f : Int}
theorem l_turn (k : Nat) (hN : N ≤ 70000) (h : WS N S T) : wp ((sm (k + 5)).call 66 [.l 0]) S fun w S' => ∃ d, w = .d d ∧ GT d ∧ WS (N + 8) S' T := by
  rw [r__law_turn, c__law_turn]
  refine wp_finD h ?_
  simp
  refine wp_mono (l_number (k + 1) (by omega) h) ?_
  rintro _ S2 ⟨_, rfl, ⟨p, rfl, hp⟩, h2⟩
  simp
  refine wp_mono (l_number (k + 1) (by omega) h2) ?_
  rintro _ S3 ⟨_, rfl, ⟨q, rfl, hq⟩, h3⟩
  have w3 : WS (N + 8) S3 T := h3.mono (by omega)
  have g1 : GT (V2 0 1) := ⟨0, 1, rfl, by decide +kernel, ⟨by decide⟩, ⟨by decide⟩⟩
  have red : ∀ x y : Int, 0 ≤ x → x.natAbs < 2 ^ 41 → y.natAbs < 2 ^ 41 → (x = 0 → y = 1) → ∃ u v : Int, (sm (k + 4)).call 51 [.d (.tuple [.int x, .int y])] = re (.d (V2 u v)) ∧ GT (V2 u v) := by
    intro x y x0 hx hy hxy
    have hg : 0 < gcdL [x, y] := by
      refine Nat.pos_of_ne_zero fun e => ?_
      have h1 := gcdL_zero e x (by simp)
      have h2 := gcdL_zero e y (by simp)
      have := hxy h1
      omega
    have bb : ∀ z ∈ [x, y], Bd z 41 := by
      intro z hz
      simp only [List.mem_cons, List.not_mem_nil, or_false] at hz
      rcases hz with rfl | rfl
      · exact ⟨hx⟩
      · exact ⟨hy⟩
    have e1 := l_reduced (k + 2) [x, y] (w := 41) bb (by decide) (by simp) hg
    have e2 := redL_one hg
    have e3 := redL_eq hg
    have e4 : redL [x, y] = [x / (gcdL [x, y] : Int), y / (gcdL [x, y] : Int)] := rfl
    have d1 := div_le (x := x) (g := gcdL [x, y])
    have d2 := div_le (x := y) (g := gcdL [x, y])
    have d3 : 0 ≤ x / (gcdL [x, y] : Int) := Int.ediv_nonneg x0 (by omega)
    rw [e4] at e1 e2 e3
    generalize hu : x / (gcdL [x, y] : Int) = u at *
    generalize hv : y / (gcdL [x, y] : Int) = v at *
    simp only [List.map_cons, List.map_nil] at e1
    refine ⟨u, v, e1, u, v, rfl, ?_, ⟨by omega⟩, ⟨by omega⟩⟩
    by_cases hx0 : x = 0
    · have hy1 := hxy hx0
      subst hx0; subst hy1
      have g1 : gcdL [(0 : Int), 1] = 1 := by decide +kernel
      rw [g1] at hu hv
      have : u = 0 := by rw [← hu]; rfl
      have : v = 1 := by rw [← hv]; rfl
      subst u; subst v
      decide +kernel
    · have hu0 : 0 < u := by
        rcases Int.lt_trichotomy u 0 with c | c | c
        · omega
        · subst c
          simp at e3
          exact absurd e3.1 hx0
        · exact c
      simp [turnB, e2, hu0]
  by_cases hp0 : p = 0
  · subst hp0
    obtain ⟨u, v, e, hG⟩ := red 0 1 (by decide) (by decide) (by decide) (fun _ => rfl)
    simp [e]
    exact ⟨⟨[], ws_nil w3⟩, hG⟩
  · have hab : b1 .abs [.int p] = some (.int (p.natAbs : Int)) := b1_abs_ p
    obtain ⟨u, v, e, hG⟩ := red (p.natAbs : Int) q (by omega) (by omega) hq (fun h => by omega)
    have hn : ¬ ((p.natAbs : Int) = 0) := by omega
    simp [hp0, hab, e, hn]
    exact ⟨⟨[], ws_nil w3⟩, hG⟩
end G07

namespace G07
open PySem PySem.Spec PyProof.Rows L2 DL
variable {N : Nat} {S T : Sto} {f : Int}
theorem atL_get {xs : List PyData} {v : Int} (h0 : 0 ≤ v) (h1 : v < xs.length) : ∃ x ∈ xs, atD (.list xs) (.int v) = some x := atI_get h0 h1
theorem l_pickD (k : Nat) {xs : List PyData} (h1 : 0 < xs.length) (h2 : xs.length < 100) (hN : N ≤ 100000) (h : WS N S T) : wp ((sm (k + 2)).call 43 [.l 0, .d (.list xs)]) S fun w S' => ∃ d, w = .d d ∧ d ∈ xs ∧ WS (N + 1) S' T := by
  rw [r__law_pick, c__law_pick]
  refine wp_finD h ?_
  have hb : Bd (xs.length : Int) 8 := ⟨by omega⟩
  simp
  refine wp_mono (e_draw k (n := (xs.length : Int)) (by decide) (by omega) hN h) ?_
  rintro _ S1 ⟨v, rfl, h3, h4, h5⟩
  obtain ⟨x, hx, e⟩ := atL_get h3 h4
  simp [e]
  exact ⟨⟨[], ws_nil h5⟩, hx⟩
theorem wp_lenL {j : Nat} {xs : List PyData} {S : Sto} {Q : W → Sto → Prop} (e : S[j]? = some xs) (h : Q (.d (.int (xs.length : Nat))) S) : wp (blW .len [.l j]) S Q := by
  refine ⟨.d (.int (xs.length : Nat)), S, ?_, h⟩
  have : asDs [W.l j] S = some (.ok [PyData.list xs] S) := by
    show (bnd (asD (.l j)) fun x => bnd (asDs []) fun xs => re (x :: xs)) S = _
    have e2 : asD (.l j) S = some (.ok (.list xs) S) := by
      show (match S[j]? with
        | some xs => some (Out.ok (PyData.list xs) S)
        | none => none) = _
      rw [e]
    simp only [bnd, e2, asDs, re]
  unfold blW
  simp only [bnd, this]
  rfl
theorem wp_ixL {j : Nat} {xs : List PyData} {x v : PyData} {S : Sto} {Q : W → Sto → Prop} (e : S[j]? = some xs) (e2 : atD (.list xs) v = some x) (h : Q (.d x) S) : wp (ixW (.l j) (.d v)) S Q := by
  refine ⟨.d x, S, ?_, h⟩
  unfold ixW
  have e3 : asD (.l j) S = some (.ok (.list xs) S) := by
    show (match S[j]? with
      | some xs => some (Out.ok (PyData.list xs) S)
      | none => none) = _
    rw [e]
  simp only [bnd, e3, onD, e2, lift]
  rfl
theorem l_pickL (k : Nat) {xs : List PyData} (h1 : 0 < xs.length) (h2 : xs.length < 100) (hN : N ≤ 100000) (h : WS N S (T ++ [xs])) : wp ((sm (k + 2)).call 43 [.l 0, .l (T.length + 1)]) S fun w S' => ∃ d, w = .d d ∧ d ∈ xs ∧ WS (N + 1) S' (T ++ [xs]) := by
  rw [r__law_pick, c__law_pick]
  refine wp_finD h ?_
  have hb : Bd (xs.length : Int) 8 := ⟨by omega⟩
  simp
  refine wp_lenL (ws_get h) ?_
  refine wp_mono (e_draw k (n := (xs.length : Int)) (by decide) (by omega) hN h) ?_
  rintro _ S1 ⟨v, rfl, h3, h4, h5⟩
  obtain ⟨x, hx, e⟩ := atL_get h3 h4
  refine wp_ixL (ws_get h5) e ?_
  simp
  exact ⟨⟨[], by simpa using h5⟩, hx⟩
theorem wp_finL {m : Mo Fl} {S T : Sto} {N M : Nat} {P : List PyData → Prop} (h0 : WS N S T) (h : wp m S fun f S' => ∃ xs L, f = .rt (.l (T.length + 1)) ∧ WS M S' (T ++ [xs] ++ L) ∧ P xs) : wp (finM m) S fun w S' => ∃ xs, w = .d (.list xs) ∧ P xs ∧ WS M S' T := by
  refine wp_fin (wp_mono h fun f S' ⟨xs, L, e, hs, hp⟩ => ?_)
  subst e
  have hl := ws_len h0
  refine ⟨by omega, xs, ?_, xs, rfl, hp, ?_⟩
  · obtain ⟨r, c, t, rfl, _⟩ := hs
    simp
  · rw [List.append_assoc] at hs
    exact ws_take h0 hs
end G07

namespace G07
open PySem PySem.Spec PyProof.Rows L2 DL
variable {N : Nat} {S T : Sto} {f : Int}
def GV' (v : Nat) (f : Int) (d : PyData) : Prop := ∃ a b l : Int, d = A4 f a b l ∧ Ang f a b l ∧ a.natAbs < 2 ^ v ∧ b.natAbs < 2 ^ v ∧ l.natAbs < 2 ^ v
theorem GV'.mono {v w : Nat} {d : PyData} (h : GV' v f d) (e : v ≤ w) : GV' w f d := by
  obtain ⟨a, b, l, rfl, hA, h1, h2, h3⟩ := h
  have := Nat.pow_le_pow_right (n := 2) (by decide) e
  exact ⟨a, b, l, rfl, hA, by omega, by omega, by omega⟩
theorem ga_gv {d : PyData} (h : GA f d) : GV' 135 f d := by
  obtain ⟨a, b, l, rfl, hA, B⟩ := h
  exact ⟨a, b, l, rfl, hA, B.a.h, B.b.h, B.l.h⟩
theorem gv_gb {d : PyData} (h : GV' 225 f d) : GB f d := by
  obtain ⟨a, b, l, rfl, hA, h1, h2, h3⟩ := h
  exact ⟨a, b, l, rfl, hA, ⟨by have := hA.f1; have := hA.f3; omega⟩, ⟨h1⟩, ⟨h2⟩, ⟨h3⟩⟩
theorem gv_opp {v : Nat} {a b l : Int} (hA : Ang f a b l) (h1 : a.natAbs < 2 ^ v) (h2 : b.natAbs < 2 ^ v) (h3 : l.natAbs < 2 ^ v) : GV' v f (A4 f (-a) (-b) l) ∧ GV' v f (A4 f (-a) b (-l)) := by
  have g1 : gcdL [-a, -b, l] = gcdL [a, b, l] := by simp [gcdL]
  have g2 : gcdL [-a, b, -l] = gcdL [a, b, l] := by simp [gcdL]
  have n := hA.n
  have e1 : -a * -a = a * a := by grind
  have e2 : f * -b * -b = f * b * b := by grind
  have e3 : -l * -l = l * l := by grind
  refine ⟨⟨-a, -b, l, rfl, ⟨hA.f1, hA.f3, by rw [g1]; exact hA.g, by rw [e1, e2]; exact n⟩, by omega, by omega, by omega⟩, ⟨-a, b, -l, rfl, ⟨hA.f1, hA.f3, by rw [g2]; exact hA.g, by rw [e1, e3]; exact n⟩, by omega, by omega, by omega⟩⟩
theorem far_bd {v : Nat} {F x t : Int} (hF : F = 10 ∨ F = 1000 ∨ F = 10 ^ 9) (hx : x.natAbs < 2 ^ v) (t0 : 0 ≤ t) (t1 : t ≤ 2) : (F * x + t - 1).natAbs < 2 ^ (v + 30) := by
  have e : 2 ^ (v + 30) = 2 ^ v * 1073741824 := by rw [Nat.pow_add]
  rw [e]
  generalize 2 ^ v = P at *
  rcases hF with rfl | rfl | rfl <;> omega
theorem far_bd0 {v : Nat} {F x : Int} (hF : F = 10 ∨ F = 1000 ∨ F = 10 ^ 9) (hx : x.natAbs < 2 ^ v) : (F * x).natAbs < 2 ^ (v + 30) := by
  have := far_bd (t := 1) hF hx (by omega) (by omega)
  rw [show F * x = F * x + 1 - 1 by omega]
  exact this
end G07

namespace G07
open PySem PySem.Spec PyProof.Rows L2 DL
variable {N : Nat} {S T : Sto} {f : Int}
def PoolL (f : Int) (zs : List PyData) : Prop := ∀ z ∈ zs, GV' (105 + 30 * zs.length) f z
theorem PoolL.snoc {zs : List PyData} {z : PyData} (h : PoolL f zs) (hz : GV' (105 + 30 * zs.length + 30) f z) : PoolL f (zs ++ [z]) := by
  intro y hy
  rw [List.length_append, List.length_singleton]
  rcases List.mem_append.1 hy with hy | hy
  · exact (h y hy).mono (by omega)
  · rw [List.mem_singleton] at hy
    subst hy
    exact hz.mono (by omega)
abbrev pE (f : Int) (x y : Int) (j : Nat) (w5 w6 w7 w8 w9 w10 w11 w12 w13 : Option W) : Env' := [some (.l 0), some (.d (.int f)), some (.d (.int 4)), some (.d (V2 x y)), some (.l j), w5, w6, w7, w8, w9, w10, w11, w12, w13]
theorem pool_end {Γ : Sm} {zs : List PyData} {z : PyData} {n M : Nat} {S : Sto} {x y : Int} {w5 w7 w8 w9 w10 w11 w12 w13 : Option W} (hl : n + zs.length = 3) (hz : PoolL f zs) (hg : GV' (105 + 30 * zs.length + 30) f z) (hM : M + zs.length * 0 ≤ N + 90 * (zs.length + 1)) (h : WS M S (T ++ [zs])) :
    wp (exS Γ (.app 4 (.var 6)) (pE f x y (T.length + 1) w5 (some (.d z)) w7 w8 w9 w10 w11 w12 w13)) S fun g S' => ∃ (zs : List PyData) (w5 w6 w7 w8 w9 w10 w11 w12 w13 : Option W), g = .nx (pE f x y (T.length + 1) w5 w6 w7 w8 w9 w10 w11 w12 w13) ∧ n + zs.length = 4 ∧ 1 ≤ zs.length ∧ PoolL f zs ∧ WS (N + 90 * zs.length) S' (T ++ [zs]) := by
  refine wp_app (j := T.length + 1) (by simp) ?_
  simp
  have hW : WS (N + 90 * (zs.length + 1)) (S.set (T.length + 1) (zs ++ [z])) (T ++ [zs ++ [z]]) := (ws_set h (zs ++ [z])).mono (by omega)
  refine ⟨zs, ws_get h, by omega, zs ++ [z], ?_⟩
  simp
  refine ⟨by omega, hz.snoc hg, hW⟩
theorem l_pool (k : Nat) (hf : 1 ≤ f) (hf3 : f ≤ 3) (hN : N ≤ 50000) (h : WS N S T) : wp ((sm (k + 8)).call 65 [.l 0, .d (.int f), .d (.int 4)]) S fun w S' => ∃ xs, w = .d (.list xs) ∧ (xs.length = 4 ∧ ∀ z ∈ xs, GB f z) ∧ WS (N + 400) S' T := by
  rw [r__law_pool, c__law_pool]
  refine wp_finL h ?_
  simp [ex_fors]
  refine wp_mono (l_whole_way (k + 3) hf hf3 (by omega) h) ?_
  rintro _ S1 ⟨_, rfl, ⟨x, y, m, rfl, hx, hy, hm, hmm⟩, h1⟩
  try simp
  refine wp_mono (l_angle (k + 2) hf hf3 (by omega) h1) ?_
  rintro _ S2 ⟨A, rfl, hA, h2⟩
  try simp
  refine wp_newL ?_
  have h3 := ws_new h2 [A]
  rw [ws_len h2]
  have hxb : Bd x 90 := ⟨hx⟩
  refine wp_for (fun ys ρ S' => ∃ (zs : List PyData) (w5 w6 w7 w8 w9 w10 w11 w12 w13 : Option W), ρ = pE f x y (T.length + 1) w5 w6 w7 w8 w9 w10 w11 w12 w13 ∧ ys.length + zs.length = 4 ∧ 1 ≤ zs.length ∧ PoolL f zs ∧ WS (N + 90 * zs.length) S' (T ++ [zs])) (xs := rngUp 0 3) (g := []) rfl (by show 3 ≤ 100000; decide) ⟨[A], _, _, _, _, _, _, _, _, _, rfl, rfl, by simp, ?_, h3.mono (by simp <;> omega)⟩ (fun _ _ _ _ i hi => by cases hi) ?_ ?_
  · intro z hz
    rw [List.mem_singleton] at hz
    subst hz
    exact ga_gv hA
  · rintro ρ' S' ⟨zs, w5, w6, w7, w8, w9, w10, w11, w12, w13, rfl, hl, h1, hz, hs⟩
    have hl : zs.length = 4 := by simpa using hl
    simp
    refine ⟨zs, ⟨[], by simpa using hs.mono (by omega)⟩, hl, fun z hz' => gv_gb ?_⟩
    have := hz z hz'
    rw [hl] at this
    exact this
  · rintro t ys ρ S' ⟨zs, w5, w6, w7, w8, w9, w10, w11, w12, w13, rfl, hl, hz1, hz, hs⟩
    have hl : ys.length + zs.length = 3 := by simp at hl; omega
    simp
    refine wp_mono (e_draw (k + 6) (n := 7) (by decide) (by decide) (by omega) hs) ?_
    rintro _ S4 ⟨v, rfl, hv0, hv1, h4⟩
    simp
    refine wp_mono (l_pickL (k + 5) (xs := zs) (by omega) (by omega) (by omega) h4) ?_
    rintro _ S5 ⟨old, rfl, hold, h5⟩
    have ho := hz old hold
    simp
    refine wp_mono (l_angle (k + 2) hf hf3 (by omega) h5) ?_
    rintro _ S6 ⟨fr, rfl, hfr, h6⟩
    have hfr' : GV' (105 + 30 * zs.length + 30) f fr := (ga_gv hfr).mono (by omega)
    have n4 : v = 0 ∨ v = 1 ∨ v = 2 ∨ v = 3 ∨ 4 ≤ v := by omega
    rcases n4 with c | c | c | c | c4
    · subst c
      simp
      refine wp_mono (l_vector (k + 3) (by omega) h6) ?_
      rintro _ S7 ⟨_, rfl, ⟨v0, v1, rfl, g0, g1, gnz⟩, h7⟩
      obtain ⟨d, e1, e2⟩ := l_angle_at (k + 4) hf hf3 hx hy hm hmm g0 g1
      rcases e2 with rfl | hd
      · simp [e1, isNon]
        refine wp_mono (pool_end (N := N) (n := ys.length) (x := x) (y := y) (by omega) hz hfr' (by omega) h7) ?_
        rintro _ S9 ⟨zs', z5, z6, z7, z8, z9, z10, z11, z12, z13, rfl, e1, e2, e3, e4⟩
        rw [seqF_nx]
        simp
        exact ⟨zs', e1, e2, e3, e4⟩
      · have hd' : GV' (105 + 30 * zs.length + 30) f d := (ga_gv hd).mono (by omega)
        have hnn : isNon d = false := by obtain ⟨a, b, l, rfl, _⟩ := hd; rfl
        simp [e1, hnn]
        refine wp_mono (pool_end (N := N) (n := ys.length) (x := x) (y := y) (by omega) hz hd' (by omega) h7) ?_
        rintro _ S9 ⟨zs', z5, z6, z7, z8, z9, z10, z11, z12, z13, rfl, e1, e2, e3, e4⟩
        rw [seqF_nx]
        simp
        exact ⟨zs', e1, e2, e3, e4⟩
    · subst c
      simp
      refine wp_mono (l_vector (k + 3) (by omega) h6) ?_
      rintro _ S7 ⟨_, rfl, ⟨v0, v1, rfl, g0, g1, gnz⟩, h7⟩
      obtain ⟨d, e1, e2⟩ := l_angle_at (k + 4) hf hf3 hx hy hm hmm g0 g1
      rcases e2 with rfl | hd
      · simp [e1, isNon]
        refine wp_mono (pool_end (N := N) (n := ys.length) (x := x) (y := y) (by omega) hz hfr' (by omega) h7) ?_
        rintro _ S9 ⟨zs', z5, z6, z7, z8, z9, z10, z11, z12, z13, rfl, e1, e2, e3, e4⟩
        rw [seqF_nx]
        simp
        exact ⟨zs', e1, e2, e3, e4⟩
      · have hd' : GV' (105 + 30 * zs.length + 30) f d := (ga_gv hd).mono (by omega)
        have hnn : isNon d = false := by obtain ⟨a, b, l, rfl, _⟩ := hd; rfl
        simp [e1, hnn]
        refine wp_mono (pool_end (N := N) (n := ys.length) (x := x) (y := y) (by omega) hz hd' (by omega) h7) ?_
        rintro _ S9 ⟨zs', z5, z6, z7, z8, z9, z10, z11, z12, z13, rfl, e1, e2, e3, e4⟩
        rw [seqF_nx]
        simp
        exact ⟨zs', e1, e2, e3, e4⟩
    · subst c
      obtain ⟨a, b, l, rfl, hAo, b1, b2, b3⟩ := ho
      obtain ⟨o1, o2⟩ := gv_opp hAo b1 b2 b3
      have o1 := o1.mono (w := 105 + 30 * zs.length + 30) (by omega)
      have o2 := o2.mono (w := 105 + 30 * zs.length + 30) (by omega)
      simp
      refine wp_mono (e_draw (k + 6) (n := 2) (by decide) (by decide) (by omega) h6) ?_
      rintro _ S7 ⟨u, rfl, u0, u1, h7⟩
      by_cases cu : u = 0
      · simp [cu]
        refine wp_mono (pool_end (N := N) (n := ys.length) (x := x) (y := y) (by omega) hz o1 (by omega) h7) ?_
        rintro _ S9 ⟨zs', z5, z6, z7, z8, z9, z10, z11, z12, z13, rfl, e1, e2, e3, e4⟩
        rw [seqF_nx]
        simp
        exact ⟨zs', e1, e2, e3, e4⟩
      · simp [cu]
        refine wp_mono (pool_end (N := N) (n := ys.length) (x := x) (y := y) (by omega) hz o2 (by omega) h7) ?_
        rintro _ S9 ⟨zs', z5, z6, z7, z8, z9, z10, z11, z12, z13, rfl, e1, e2, e3, e4⟩
        rw [seqF_nx]
        simp
        exact ⟨zs', e1, e2, e3, e4⟩
    · subst c
      have ho' := ho
      obtain ⟨a, b, l, rfl, hAo, b1, b2, b3⟩ := ho
      have hW : 105 + 30 * zs.length ≤ 195 := by omega
      generalize hWv : 105 + 30 * zs.length = Wv at *
      have ba : Bd a Wv := ⟨b1⟩
      have bb : Bd b Wv := ⟨b2⟩
      have bl : Bd l Wv := ⟨b3⟩
      have bf : Bd f 2 := ⟨by omega⟩
      have p9 : o2 .pow (.int 10) (.int 9) = some (.int (10 ^ 9)) := by
        show (if (0 : Int) ≤ 9 ∧ (9 : Int) ≤ 1000 ∧ (10 : Int).natAbs < 2 ^ 64 then _ else none) = _
        rw [if_pos (by decide)]
        rfl
      simp [p9]
      refine wp_mono (l_pick (k + 5) (by simp) (by simp) (by omega) h6) ?_
      rintro _ S7 ⟨fd, rfl, hfd, h7⟩
      have hF : ∃ F : Int, fd = .int F ∧ (F = 10 ∨ F = 1000 ∨ F = 10 ^ 9) := by
        simp only [List.mem_cons, List.not_mem_nil, or_false] at hfd
        rcases hfd with rfl | rfl | rfl
        · exact ⟨_, rfl, .inl rfl⟩
        · exact ⟨_, rfl, .inr (.inl rfl)⟩
        · exact ⟨_, rfl, .inr (.inr rfl)⟩
      obtain ⟨F, rfl, hF⟩ := hF
      have bF : Bd F 30 := ⟨by rcases hF with rfl | rfl | rfl <;> decide⟩
      have m1 : o2 .mul (.int F) (.int a) = some (.int (F * a)) := o2_mul_ (by omega)
      have m2 : o2 .mul (.int F) (.int b) = some (.int (F * b)) := o2_mul_ (by omega)
      have m3 : o2 .mul (.int F) (.int l) = some (.int (F * l)) := o2_mul_ (by omega)
      simp [m1, m2, m3]
      refine wp_mono (e_draw (k + 6) (n := 3) (by decide) (by decide) (by omega) h7) ?_
      rintro _ S8 ⟨u, rfl, u0, u1, h8⟩
      simp [m1, m2, m3]
      refine wp_mono (e_draw (k + 6) (n := 3) (by decide) (by decide) (by omega) h8) ?_
      rintro _ S10 ⟨u', rfl, u0', u1', h10⟩
      have c1 := far_bd (t := u) hF b1 u0 (by omega)
      have c2 := far_bd (t := u') hF b2 u0' (by omega)
      have c3 := far_bd0 hF b3
      generalize hA1 : F * a + u - 1 = A1 at *
      generalize hB1 : F * b + u' - 1 = B1 at *
      generalize hL1 : F * l = L1 at *
      have d1 : Bd A1 (Wv + 30) := ⟨c1⟩
      have d2 : Bd B1 (Wv + 30) := ⟨c2⟩
      have d3 : Bd L1 (Wv + 30) := ⟨c3⟩
      have mL : o2 .mul (.int L1) (.int L1) = some (.int (L1 * L1)) := o2_mul_ (by omega)
      have nm := l_norm (k + 6) f A1 B1 (u := 2) (v1 := Wv + 30) (v2 := Wv + 30) (by omega)
      by_cases cl : L1 * L1 < A1 * A1 + f * B1 * B1
      · obtain ⟨a', b', l', e1, e2, e3, e4, e5⟩ := l_red3 (k + 5) c1 c2 c3 (by omega) hf hf3 cl
        have hg : GV' (Wv + 30) f (A4 f a' b' l') := ⟨a', b', l', rfl, e2, e3, e4, e5⟩
        simp [m1, m2, m3, hA1, hB1, hL1, mL, nm, cl, e1]
        subst hWv
        refine wp_mono (pool_end (N := N) (n := ys.length) (x := x) (y := y) (by omega) hz hg (by omega) h10) ?_
        rintro _ S9 ⟨zs', z5, z6, z7, z8, z9, z10, z11, z12, z13, rfl, e1, e2, e3, e4⟩
        rw [seqF_nx]
        simp
        exact ⟨zs', e1, e2, e3, e4⟩
      · have hg : GV' (Wv + 30) f (A4 f a b l) := ho'.mono (by omega)
        simp [m1, m2, m3, hA1, hB1, hL1, mL, nm, cl]
        subst hWv
        refine wp_mono (pool_end (N := N) (n := ys.length) (x := x) (y := y) (by omega) hz hg (by omega) h10) ?_
        rintro _ S9 ⟨zs', z5, z6, z7, z8, z9, z10, z11, z12, z13, rfl, e1, e2, e3, e4⟩
        rw [seqF_nx]
        simp
        exact ⟨zs', e1, e2, e3, e4⟩
    · have n0 : ¬ v = 0 := by omega
      have n1 : ¬ v = 1 := by omega
      have n2 : ¬ v = 2 := by omega
      have n3 : ¬ v = 3 := by omega
      simp [n0, n1, n2, n3]
      refine wp_mono (pool_end (N := N) (n := ys.length) (x := x) (y := y) (by omega) hz hfr' (by omega) h6) ?_
      rintro _ S9 ⟨zs', z5, z6, z7, z8, z9, z10, z11, z12, z13, rfl, e1, e2, e3, e4⟩
      rw [seqF_nx]
      simp
      exact ⟨zs', e1, e2, e3, e4⟩
end G07

namespace G07
open PySem PySem.Spec PyProof.Rows L2 DL
variable {N : Nat} {S T : Sto} {f : Int}
theorem l_is_way (k : Nat) {p q : Int} {w : Nat} (bq : Bd q w) (hw : w ≤ 8990) (hg : gcdL [p, q] = 1) : (sm (k + 2)).call 71 [.d (V2 p q)] = re (.d (.bool true)) := by
  rw [r__law_is_way, c__law_is_way]
  have e1 := l_common k p q (w := w) hw
  have e2 : Nat.gcd p.natAbs q.natAbs = 1 := by
    have : Nat.gcd (Nat.gcd 0 p.natAbs) q.natAbs = 1 := hg
    rwa [Nat.gcd_zero_left] at this
  rw [e2] at e1
  have cm : ∀ w : Option W, cmW' (sm (k + 1)) .seq (.nm 1) [.or [.not (.isi "int" (.var 1)), .isi "bool" (.var 1)]] (.var 1) [some (.d (V2 p q)), w] [.d (V2 p q)] = re (.d (.list [])) := by
    intro w
    funext S
    have := cmW_ok (Γ := sm (k + 1)) (k := .seq) (p := .nm 1) (cs := [.or [.not (.isi "int" (.var 1)), .isi "bool" (.var 1)]]) (e := .var 1) (S := S) (g := []) (ρ0 := [some (.d (V2 p q)), w]) (f := fun _ => none) (ws := [.d (V2 p q)]) (xs := [.int p, .int q]) rfl (by show 2 ≤ 100000; decide) (fun x hx => by
      have : ∃ i : Int, x = .int i := by
        simp only [List.mem_cons, List.not_mem_nil, or_false] at hx
        rcases hx with rfl | rfl <;> exact ⟨_, rfl⟩
      obtain ⟨i, rfl⟩ := this
      exact ⟨[some (.d (V2 p q)), some (.d (.int i))], false, by rw [asg_nm]; rfl, by simp [cnd_cons, tyOf]; rfl, fun _ => rfl, fun h => by cases h⟩)
    rw [this]
    rfl
  have ne : c2 .ne (.list []) (.list []) = some false := by decide +kernel
  simp [ev_cmpr, wipeE, cm, ne, e1, tyOf]
end G07

namespace G07
open PySem PySem.Spec PyProof.Rows L2 DL
theorem wp_cmGo {Γ : Sm} {p : Pat} {e : Ex} {ρ0 : Env'} {S0 : Sto} {Q : List PyData → Sto → Prop} (Iv : List PyData → List PyData → Sto → Prop) (hend : ∀ acc S', Iv [] acc S' → Q acc S')
    (step : ∀ x ys acc S', Iv (x :: ys) acc S' → ∃ ρ', asg p x ρ0 = re ρ' ∧ wp (evE Γ e ρ') S' fun w S2 => ∃ d, w = .d d ∧ Iv ys (acc ++ [d]) S2) : ∀ (xs acc : List PyData) (S : Sto), Iv xs acc S → wp (cmGo Γ p [] e S0 [] ρ0 xs acc) S Q
  | [], acc, S, iv => by
    unfold cmGo
    rw [compL]
    refine ⟨acc, S, ?_, hend _ _ iv⟩
    rw [staying_eq (fun j hj => by cases hj)]
    rfl
  | x :: xs, acc, S, iv => by
    obtain ⟨ρ', h1, w, S2, h2, d, rfl, h3⟩ := step x xs acc S iv
    obtain ⟨a, S3, h4, q⟩ := wp_cmGo Iv hend step (S0 := S0) xs (acc ++ [d]) S2 h3
    unfold cmGo at h4 ⊢
    rw [compL]
    refine ⟨a, S3, ?_, q⟩
    rw [staying_eq (fun j hj => by cases hj)]
    simp only [h1, bnd_re_, cnd_nil, if_true]
    simp only [bnd, h2, onD]
    exact h4
theorem wp_cm {Γ : Sm} {k : SK} {p : Pat} {e : Ex} {ρ0 : Env'} {ws : List W} {S : Sto} {xs : List PyData} {Q : W → Sto → Prop} (hi : itemsOf k ws S = some (xs, [])) (hl : xs.length ≤ LIM) (Iv : List PyData → List PyData → Sto → Prop) (h0 : Iv xs [] S) (hend : ∀ acc S', Iv [] acc S' → Q (.d (.list acc)) S')
    (step : ∀ x ys acc S', Iv (x :: ys) acc S' → ∃ ρ', asg p x ρ0 = re ρ' ∧ wp (evE Γ e ρ') S' fun w S2 => ∃ d, w = .d d ∧ Iv ys (acc ++ [d]) S2) : wp (cmW' Γ k p [] e ρ0 ws) S Q := by
  obtain ⟨a, S', h, q⟩ := wp_cmGo (Γ := Γ) (p := p) (e := e) (ρ0 := ρ0) (S0 := S) (Q := fun acc S' => Q (.d (.list acc)) S') Iv hend step xs [] S h0
  refine ⟨.d (.list a), S', ?_, q⟩
  unfold cmW'
  rw [hi]
  show (if xs.length ≤ LIM then _ else _) = _
  rw [if_pos hl]
  simp only [bnd, noexc, h, re]
end G07

namespace G07
open PySem PySem.Spec PyProof.Rows L2 DL
variable {N : Nat} {S T : Sto} {f : Int}
theorem tsg_abs (p q r s : Int) : Geo.tsg p q r s = 1 ∨ Geo.tsg p q r s = 0 ∨ Geo.tsg p q r s = -1 := by
  unfold Geo.tsg
  split
  · split <;> simp
  · exact sign_abs _
theorem tsg_anti (p q r s : Int) : Geo.tsg r s p q = -Geo.tsg p q r s := by
  unfold Geo.tsg
  by_cases c1 : q < 0 <;> by_cases c2 : s < 0 <;> simp [c1, c2]
  · rw [show s * p - q * r = -(q * r - s * p) by omega, Int.sign_neg]
  · rw [show s * p - q * r = -(q * r - s * p) by omega, Int.sign_neg]
theorem gsg_abs (f a b l c d m p q a' b' l' : Int) : gsg f a b l c d m p q a' b' l' = 1 ∨ gsg f a b l c d m p q a' b' l' = 0 ∨ gsg f a b l c d m p q a' b' l' = -1 := by
  unfold gsg
  split
  · simp
  · split
    · simp
    · split <;> simp
theorem rpr_i2 {i j : Int} (hi : i = 1 ∨ i = 0 ∨ i = -1) (hj : j = 1 ∨ j = 0 ∨ j = -1) : reprOk (.list [.int i, .int j]) = true := by
  rcases hi with rfl | rfl | rfl <;> rcases hj with rfl | rfl | rfl <;> decide +kernel
def GH (f : Int) (x : PyData) : Prop := ∃ c d m : Int, x = A4 f c d m ∧ Ang f c d m ∧ Bd c 320 ∧ Bd d 320 ∧ Bd m 320
theorem gb_gh {x : PyData} (h : GB f x) : GH f x := by
  obtain ⟨a, b, l, rfl, hA, _, ba, bb, bl⟩ := h
  exact ⟨a, b, l, rfl, hA, ba.mono (by decide), bb.mono (by decide), bl.mono (by decide)⟩
abbrev gIn : List Sx := [.set 5 (.call 69 [.var 6, .var 7, .var 9]), .set 10 (.lst [.call 40 [.var 6, .var 7, .var 9], .callK 40 0 [2, 1, 0] [.var 9, .var 7, .var 6]]), .iff (.cmp .ne (.rpr (.var 10)) (.rpr (.lst [.var 5, .var 5]))) [.ret (.cB false)] []]
abbrev gE' (f : Int) (so tu : PyData) (w4 w5 w6 w7 w8 w9 w10 w11 : Option W) : Env' := [some (.l 0), some (.d (.int f)), some (.d so), some (.d tu), w4, w5, w6, w7, w8, w9, w10, w11]
theorem gaps_in (k : Nat) {so tu A t : PyData} {one_ : Option W} (hA : GB f A) (ht : GT t) {xs : List PyData} (hx : ∀ x ∈ xs, GH f x) (hl : xs.length ≤ 100) (w4 w5 w7 w10 w11 : Option W) :
    ∃ w5' w7' w10', frW (sm (k + 9)) .seq (.nm 7) gIn (gE' f so tu w4 w5 (some (.d A)) w7 one_ (some (.d t)) w10 w11) [.d (.list xs)] = re (.nx (gE' f so tu w4 w5' (some (.d A)) w7' one_ (some (.d t)) w10' w11)) := by
  obtain ⟨a, b, l, rfl, hAa, bf, ba, bb, bl⟩ := hA
  obtain ⟨p, q, rfl, htb, bp, bq⟩ := ht
  obtain ⟨g, a', b', l', tn, ee⟩ := e_turned' hAa bf ba bb bl (turn_g htb) bp bq
  obtain ⟨ρ', ⟨_, w5', w7', w10', rfl⟩, hr⟩ := frW_rel (Γ := sm (k + 9)) (k := .seq) (p := .nm 7) (b := gIn) (ws := [.d (.list xs)]) (xs := xs) (ρ := gE' f so tu w4 w5 (some (.d (A4 f a b l))) w7 one_ (some (.d (V2 p q))) w10 w11)
    (fun ys ρ => (∀ y ∈ ys, GH f y) ∧ ∃ w5 w7 w10, ρ = gE' f so tu w4 w5 (some (.d (A4 f a b l))) w7 one_ (some (.d (V2 p q))) w10 w11) (fun _ => rfl) (by show xs.length ≤ 100000; omega) ⟨hx, _, _, _, rfl⟩ (by
      rintro x ys ρ ⟨hy, w5, w7, w10, rfl⟩
      obtain ⟨c, d, m, rfl, hC, bc, bd, bm⟩ := hy x List.mem_cons_self
      have l1 := l_gap_sign (k + 2) hAa hC bf ba bb bl bc bd bm tn (ee (k + 5)).2
      have c1 := e_compare_gap k hAa hC bf ba bb bl bc bd bm htb bp bq tn (ee (k + 4)).1
      have gs := gsg_abs f a b l c d m p q a' b' l'
      generalize gsg f a b l c d m p q a' b' l' = z at *
      have rp := rpr_i2 gs gs
      have pm : ∀ u v w : W, permW [u, v, w] [2, 1, 0] = some [w, v, u] := fun _ _ _ => rfl
      exact ⟨_, _, by rw [asg_nm], by simp [l1, c1, pm, rp]; rfl, fun y h => hy y (List.mem_cons_of_mem _ h), _, _, _, rfl⟩)
  exact ⟨w5', w7', w10', hr⟩
end G07

namespace G07
open PySem PySem.Spec PyProof.Rows L2 DL
variable {N : Nat} {S T : Sto} {f : Int}
theorem GH.sh {x : PyData} (h : GH f x) : True := trivial
theorem l_gaps (k : Nat) (hf : 1 ≤ f) (hf3 : f ≤ 3) {so : List PyData} (hs4 : so.length = 4) (hso : ∀ z ∈ so, GB f z) (hN : N ≤ 40000) (h : WS N S T) : wp ((sm (k + 10)).call 70 [.l 0, .d (.int f), .d (.list so)]) S fun w S' => ∃ d, w = .d d ∧ d = .bool true ∧ WS (N + 200) S' T := by
  rw [r__law_gaps_right, c__law_gaps_right]
  refine wp_finD h ?_
  have bf : Bd f 4 := ⟨by omega⟩
  simp [ev_cmpr, wipeE]
  refine wp_cm (xs := rngUp 0 3) rfl (by show 3 ≤ 100000; decide) (fun ys acc S' => (∀ z ∈ acc, GT z) ∧ ys.length + acc.length = 3 ∧ WS (N + 10 * acc.length) S' T) ⟨(fun z hz => by cases hz), rfl, by simpa using h⟩ ?_ ?_
  case refine_2 =>
    rintro x ys acc S' ⟨h1, h2, h3⟩
    refine ⟨_, by rw [asg_nm], ?_⟩
    have h2 : ys.length + acc.length = 2 := by simp at h2; omega
    simp
    refine wp_mono (l_turn (k + 4) (by omega) h3) ?_
    rintro _ S2 ⟨d, rfl, hd, h4⟩
    refine ⟨d, rfl, ?_, by omega, h4.mono (by omega)⟩
    rintro z (hz | rfl)
    · exact h1 z hz
    · exact hd
  rintro acc S1 ⟨h1, h2, h3⟩
  have h2 : acc.length = 3 := by simpa using h2
  have had : o2 .add (.list [V2 1 0, V2 0 1, V2 1 1, V2 1 (-1)]) (.list acc) = some (.list ([V2 1 0, V2 0 1, V2 1 1, V2 1 (-1)] ++ acc)) := o2_addL_ _ _ (by simp; omega)
  have htu : ∀ z ∈ [V2 1 0, V2 0 1, V2 1 1, V2 1 (-1)] ++ acc, GT z := by
    intro z hz
    rcases List.mem_append.1 hz with hz | hz
    · simp only [List.mem_cons, List.not_mem_nil, or_false] at hz
      rcases hz with rfl | rfl | rfl | rfl <;> exact ⟨_, _, rfl, by decide +kernel, ⟨by decide⟩, ⟨by decide⟩⟩
    · exact h1 z hz
  have htl : ([V2 1 0, V2 0 1, V2 1 1, V2 1 (-1)] ++ acc).length = 7 := by simp; omega
  simp only [opW_d, had, liftW_some, wp_re_iff]
  generalize [V2 1 0, V2 0 1, V2 1 1, V2 1 (-1)] ++ acc = tu at *
  simp [ex_fors]
  refine wp_for (fun ys ρ S' => ∃ w4 w5 w6 w7 w8 w9 w10 w11 : Option W, ρ = gE' f (.list so) (.list tu) w4 w5 w6 w7 w8 w9 w10 w11 ∧ ys.length ≤ 5 ∧ WS (N + 30 + 10 * (5 - ys.length)) S' T) (xs := rngUp 0 5) (g := []) rfl (by show 5 ≤ 100000; decide) ⟨_, _, _, _, _, _, _, _, rfl, by decide, h3.mono (by omega)⟩ (fun _ _ _ _ i hi => by cases hi) ?_ ?_
  · rintro ρ' S' ⟨w4, w5, w6, w7, w8, w9, w10, w11, rfl, _, hs⟩
    simp
    exact ⟨[], ws_nil (hs.mono (by simp <;> omega))⟩
  · rintro x ys ρ S' ⟨w4, w5, w6, w7, w8, w9, w10, w11, rfl, hl, hs⟩
    have hl : ys.length ≤ 4 := by simp at hl; omega
    have hs : WS (N + 30 + 10 * (4 - ys.length)) S' T := hs.mono (by simp)
    simp
    refine wp_mono (l_pickD (k + 7) (xs := tu) (by omega) (by omega) (by omega) hs) ?_
    rintro _ S2 ⟨t1, rfl, ht1, h4⟩
    have ht1 := htu t1 ht1
    try simp
    refine wp_mono (l_pickD (k + 7) (xs := tu) (by omega) (by omega) (by omega) h4) ?_
    rintro _ S3 ⟨t2, rfl, ht2, h5⟩
    have ht2 := htu t2 ht2
    obtain ⟨p, q, rfl, htb, bp, bq⟩ := id ht1
    obtain ⟨r, s, rfl, htb2, br, bs⟩ := id ht2
    have e1 := l_size_sign (k + 3) hf hf3 bf (turn_g htb) (turn_g htb2) bp bq br bs
    have e2 := e_compare_turns (k + 4) htb htb2 bp bq br bs
    have e3 := e_compare_turns (k + 4) htb2 htb br bs bp bq
    rw [tsg_anti] at e3
    have ta := tsg_abs p q r s
    generalize Geo.tsg p q r s = z at *
    have rp := rpr_i2 ta (show -z = 1 ∨ -z = 0 ∨ -z = -1 by omega)
    have pm : ∀ u v : W, permW [u, v] [1, 0] = some [v, u] := fun _ _ => rfl
    simp [e1, e2, e3, pm, rp]
    refine wp_mono (l_pickD (k + 7) (xs := so) (by omega) (by omega) (by omega) h5) ?_
    rintro _ S4 ⟨A, rfl, hA, h6⟩
    have hA := hso A hA
    simp [ex_fors]
    refine wp_mono (l_pickD (k + 7) (xs := so) (by omega) (by omega) (by omega) h6) ?_
    rintro _ S5 ⟨C, rfl, hC, h7⟩
    have hC := hso C hC
    obtain ⟨a, b, l, rfl, hAa, _, ba, bb, bl⟩ := id hA
    obtain ⟨g, a', b', l', tn, ee⟩ := e_turned' hAa bf ba bb bl (turn_g htb) bp bq
    have e4 := (ee (k + 6)).2
    have hx : ∀ x ∈ [C, A4 f a' b' l', A4 f a b l], GH f x := by
      intro x hx
      simp only [List.mem_cons, List.not_mem_nil, or_false] at hx
      rcases hx with rfl | rfl | rfl
      · exact gb_gh hC
      · exact ⟨a', b', l', rfl, tn.ang, tn.ba, tn.bb, tn.bl⟩
      · exact gb_gh hA
    simp only [e4, wp_re_iff, wp_bnd_iff, bnd_re_]
    obtain ⟨w5', w7', w10', hr⟩ := gaps_in k (so := .list so) (tu := .list tu) (one_ := some (.d (V2 p q))) hA ht2 hx (by simp) (some (.d x)) (some (.d (.int z))) w7 w10 w11
    rw [mkL_3, wp_re_iff, hr, wp_re_iff, seqF_nx]
    simp
    exact ⟨by omega, h7.mono (by omega)⟩
end G07

namespace G07
open PySem PySem.Spec PyProof.Rows L2 DL
variable {f : Int} {x A C : PyData}
def oneD (x y : PyData) : Bool := match x, y with
  | .tuple [.int f, .int a, .int b, .int l], .tuple [.int _, .int c, .int d, .int m] => one f a b l c d m
  | _, _ => false
def btwD (x A C : PyData) : Bool := match x, A, C with
  | .tuple [.int f, .int a, .int b, .int l], .tuple [.int _, .int c, .int d, .int m], .tuple [.int _, .int x, .int y, .int z] => btw f a b l c d m x y z
  | _, _, _ => false
theorem e_sameD (k : Nat) (hA : GB f A) (hC : GB f C) : (sm (k + 7)).call 33 [.d A, .d C] = re (.d (.bool (oneD A C))) := by
  rw [r_is_same_place, c_is_same_place]
  have c1 := cA_ok (k + 2) hA
  have c2 := cA_ok (k + 2) hC
  have c3 := cO_ok (k + 5) hC
  have a0 := at0 hA
  obtain ⟨a, b, l, rfl, gA, bf, ba, bb, bl⟩ := id hA
  obtain ⟨c, d, m, rfl, gC, _, bc, bd, bm⟩ := id hC
  have e := e_are_one (k + 1) f a b l c d m (u := 4) (v1 := 225) (v2 := 225) (v3 := 225) (w1 := 225) (w2 := 225) (w3 := 225) (by omega) (by omega) (by omega)
  simp [c1, c2, c3, e, oneD]
theorem l_betweenD (k : Nat) (hx : GB f x) (hA : GB f A) (hC : GB f C) : (sm (k + 6)).call 64 [.d x, .d A, .d C] = re (.d (.bool (btwD x A C))) := by
  obtain ⟨a, b, l, rfl, gA, bf, ba, bb, bl⟩ := id hx
  obtain ⟨c, d, m, rfl, gC, _, bc, bd, bm⟩ := id hA
  obtain ⟨x, y, z, rfl, gX, _, bx, b_y, bz⟩ := id hC
  rw [l_between k f a b l c d m x y z (u := 4) (v1 := 225) (v2 := 225) (v3 := 225) (w1 := 225) (w2 := 225) (w3 := 225) (t1 := 225) (t2 := 225) (t3 := 225) (by omega) (by omega) (by omega) (by omega)]
  rw [Geo.lbtw_eq (ang_g gA) (ang_g gC) (ang_g gX), ← btw_g]
  rfl
theorem e_betweenD (k : Nat) (hx : GB f x) (hA : GB f A) (hC : GB f C) : (sm (k + 8)).call 34 [.d x, .d A, .d C] = re (.d (.bool (btwD x A C))) := by
  rw [r_is_between_places, c_is_between_places]
  have c0 := cA_ok (k + 3) hx
  have c1 := cA_ok (k + 3) hA
  have c2 := cA_ok (k + 3) hC
  have c3 := cO_ok (k + 6) hA
  have c4 := cO_ok (k + 6) hC
  have a0 := at0 hx
  obtain ⟨a, b, l, rfl, gA, bf, ba, bb, bl⟩ := id hx
  obtain ⟨c, d, m, rfl, gC, _, bc, bd, bm⟩ := id hA
  obtain ⟨x, y, z, rfl, gX, _, bx, b_y, bz⟩ := id hC
  have e := e_lies k f a b l c d m x y z (u := 4) (v1 := 225) (v2 := 225) (v3 := 225) (w1 := 225) (w2 := 225) (w3 := 225) (t1 := 225) (t2 := 225) (t3 := 225) (by omega) (by omega) (by omega) (by omega)
  simp [c0, c1, c2, c3, c4, e, btwD]
theorem btwD_ways (hx : GB f x) (hA : GB f A) (hC : GB f C) : (oneD A C = true → btwD x C A = !(oneD x A || oneD x C)) ∧ (oneD A C = false → (btwD x A C || btwD x C A) = !(oneD x A || oneD x C) ∧ (btwD x A C && btwD x C A) = false) := by
  obtain ⟨a, b, l, rfl, gA, bf, ba, bb, bl⟩ := id hx
  obtain ⟨c, d, m, rfl, gC, _, bc, bd, bm⟩ := id hA
  obtain ⟨x, y, z, rfl, gX, _, bx, b_y, bz⟩ := id hC
  exact ⟨fun h => Geo.btw_point (ang_g gC) (ang_g gX) h, fun h => Geo.btw_ways (ang_g gA) (ang_g gC) (ang_g gX) h⟩
theorem gcdL_scale (g : Nat) (xs : List Int) : gcdL (xs.map fun y => (g : Int) * y) = g * gcdL xs := by
  have := gcdL_mul g xs 0
  rw [Nat.mul_zero] at this
  exact this
theorem redP_scale {g : Nat} (hg : 0 < g) (xs : List Int) : redP (xs.map fun y => (g : Int) * y) = if gcdL xs = 0 then xs.map (fun y => (g : Int) * y) else redP xs := by
  have e := gcdL_scale g xs
  by_cases h : gcdL xs = 0
  · rw [if_pos h]
    unfold redP
    rw [e, h, if_pos (by omega)]
  · rw [if_neg h]
    have h2 : g * gcdL xs ≠ 0 := by
      intro h3
      rcases Nat.mul_eq_zero.mp h3 with q | q <;> omega
    unfold redP redL
    rw [e, if_neg h2, if_neg h, List.map_map]
    apply List.map_congr_left
    intro x _
    show (g : Int) * x / ((g * gcdL xs : Nat) : Int) = x / (gcdL xs : Int)
    rw [Int.natCast_mul]
    exact Int.mul_ediv_mul_of_pos _ _ (by omega)
theorem redP_one {xs : List Int} (h : gcdL xs ≠ 0) : gcdL (redP xs) = 1 := by
  unfold redP
  rw [if_neg h]
  exact redL_one (by omega)
structure Told (f : Int) (A C : PyData) (x y pa pb : Int) : Prop where
  g1 : gcdL [x, y] = 1
  bx : Bd x 4110
  b_y : Bd y 4110
  red : redL [-f * y, x, 0] = [pa, pb, 0]
  gp : 0 < gcdL [-f * y, x, 0]
  ba : Bd pa 4115
  bb : Bd pb 4115
  ang : Ang f pa pb 0
  bt : btwD (A4 f pa pb 0) A C = true
end G07

namespace G07
open PySem PySem.Spec PyProof.Rows L2 DL
variable {f : Int} {x A C : PyData}
theorem redP_2 (A B : Int) : ∃ a b : Int, redP [A, B] = [a, b] := by
  have hl := redP_len [A, B]
  generalize redP [A, B] = r at *
  match r, hl with
  | [a, b], _ => exact ⟨a, b, rfl⟩
theorem bd_part {g : Nat} {p x : Int} {w : Nat} (hg : 0 < g) (e : p = g * x) (b : Bd p w) : Bd x w := ⟨by
  have h1 := b.h
  rw [e, Int.natAbs_mul, Int.natAbs_natCast] at h1
  have h2 : 1 * x.natAbs ≤ g * x.natAbs := Nat.mul_le_mul_right _ hg
  omega⟩
theorem e_told (k : Nat) (hA : GB f A) (hC : GB f C) : ∃ x y pa pb : Int, Told f A C x y pa pb ∧ (sm (k + 10)).call 35 [.d A, .d C] = re (.d (V2 x y)) := by
  obtain ⟨a, b, l, rfl, gA, bf, ba, bb, bl⟩ := id hA
  obtain ⟨c, d, m, rfl, gC, _, bc, bd, bm⟩ := id hC
  obtain ⟨p, q, bp, bq, ht, e⟩ := e_way_within k bf ba bb bl bc bd bm gA gC
  obtain ⟨pa, pb, er⟩ := redP_z (-f * q) p
  have ht2 := ht
  unfold wtst at ht2
  simp only [er] at ht2
  rw [Bool.and_eq_true] at ht2
  obtain ⟨hz, hb⟩ := ht2
  have hz : ¬ (p = 0 ∧ q = 0) := by simpa [Classical.or_iff_not_imp_left] using hz
  have hg : gcdL [p, q] ≠ 0 := fun h => hz ⟨gcdL_zero h p (by simp), gcdL_zero h q (by simp)⟩
  have g0 : 0 < gcdL [p, q] := by omega
  obtain ⟨x, y, exy⟩ := redP_2 p q
  have h1 : gcdL [x, y] = 1 := by rw [← exy]; exact redP_one hg
  obtain ⟨g, gp, eg⟩ := redP_eq [p, q]
  rw [exy] at eg
  simp only [List.map_cons, List.map_nil, List.cons.injEq, and_true] at eg
  obtain ⟨ep, eq⟩ := eg
  have bx := bd_part gp ep bp
  have b_y := bd_part gp eq bq
  have hxy : ¬ (x = 0 ∧ y = 0) := by
    rintro ⟨rfl, rfl⟩
    exact hz ⟨by rw [ep, Int.mul_zero], by rw [eq, Int.mul_zero]⟩
  have f1 := gA.f1
  have f3 := gA.f3
  have hgx : gcdL [-f * y, x, 0] ≠ 0 := fun h => by
    have h1 := gcdL_zero h (-f * y) (by simp)
    have h2 := gcdL_zero h x (by simp)
    refine hxy ⟨h2, ?_⟩
    rcases Int.mul_eq_zero.mp h1 with q | q
    · omega
    · exact q
  have es := redP_scale gp [-f * y, x, 0]
  rw [if_neg hgx] at es
  have em : ([-f * y, x, 0].map fun z => (g : Int) * z) = [-f * q, p, 0] := by
    simp only [List.map_cons, List.map_nil, List.cons.injEq, and_true]
    refine ⟨?_, ep.symm, Int.mul_zero _⟩
    rw [eq]
    grind
  rw [em, er] at es
  have eL : redL [-f * y, x, 0] = [pa, pb, 0] := by
    rw [es]
    unfold redP
    rw [if_neg hgx]
  have hgp : 0 < gcdL [-f * y, x, 0] := by omega
  have g1 : gcdL [pa, pb, 0] = 1 := by rw [← eL]; exact redL_one hgp
  have eLq := redL_eq hgp
  rw [eL] at eLq
  simp only [List.map_cons, List.map_nil, List.cons.injEq, and_true] at eLq
  have bfy : Bd (-f * y) 4115 := bdw (-f * y) (by omega)
  have bpa := bd_part hgp eLq.1 bfy
  have bpb := bd_part hgp eLq.2.1 (bx.mono (w := 4115) (by decide))
  have hnz : pa ≠ 0 ∨ pb ≠ 0 := by
    apply Classical.byContradiction
    intro h
    have h1 : pa = 0 := by omega
    have h2 : pb = 0 := by omega
    rw [h1, h2] at g1
    exact absurd g1 (by decide)
  have hn := norm_pos f1 hnz
  refine ⟨x, y, pa, pb, ⟨h1, bx, b_y, eL, hgp, bpa, bpb, ⟨f1, f3, g1, by simpa using hn⟩, hb⟩, ?_⟩
  rw [r_way_between, c_way_between]
  have c1 := cA_ok (k + 5) hA
  have c2 := cA_ok (k + 5) hC
  have c3 := cO_ok (k + 8) hC
  have ew : wred (V2 p q) = .d (V2 x y) := by
    unfold wred
    simp only [exy, List.map_cons, List.map_nil]
  rw [ew] at e
  simp [c1, c2, c3, e]
theorem Told.uses {f x y pa pb : Int} {A C : PyData} (h : Told f A C x y pa pb) (hA : GB f A) (hC : GB f C) (k : Nat) :
    (sm (k + 8)).call 32 [.d (.int f), .d (V2 x y)] = re (.d (A4 f pa pb 0)) ∧ (sm (k + 8)).call 51 [.d (.tuple [.int (0 - f * y), .int x, .int 0])] = re (.d (.tuple [.int pa, .int pb, .int 0])) ∧
    (sm (k + 8)).call 64 [.d (A4 f pa pb 0), .d A, .d C] = re (.d (.bool true)) ∧ (sm (k + 8)).call 34 [.d (A4 f pa pb 0), .d A, .d C] = re (.d (.bool true)) := by
  obtain ⟨a, b, l, rfl, gA, bf, ba, bb, bl⟩ := id hA
  obtain ⟨c, d, m, rfl, gC, _, bc, bd, bm⟩ := id hC
  have bx := h.bx
  have b_y := h.b_y
  have bpa := h.ba
  have bpb := h.bb
  have f1 := gA.f1
  have f3 := gA.f3
  have btw_ : btw f pa pb 0 a b l c d m = true := h.bt
  have nf : -f * y = 0 - f * y := by grind
  refine ⟨?_, ?_, ?_, ?_⟩
  · rw [r_way_angle, c_way_angle]
    have e1 := g_check_form (k + 4) (.int f)
    have e2 := g_check_way_yes (k + 3) (V2 x y) (by rw [g_is_way2, h.g1]; rfl)
    obtain ⟨g, a', b', _, _, _, er, _, _, e3⟩ := e_place_of (k + 4) f x y (u := 4) (v1 := 4110) (v2 := 4110) (by omega)
    have er2 : redP [-f * y, x, 0] = [pa, pb, 0] := by
      unfold redP
      rw [if_neg (by have := h.gp; omega)]
      exact h.red
    rw [er] at er2
    simp only [List.cons.injEq, and_true] at er2
    obtain ⟨rfl, rfl⟩ := er2
    have hB : isB (.int f) 1 3 = true := by
      unfold isB
      simp [f1, f3]
    rw [hB] at e1
    simp [e1, e2, e3]
  · have e := l_reduced (k + 6) [0 - f * y, x, 0] (w := 4120) (by
      intro z hz
      simp only [List.mem_cons, List.not_mem_nil, or_false] at hz
      rcases hz with rfl | rfl | rfl
      · exact bdw _ (by omega)
      · exact bx.mono (by decide)
      · exact ⟨by exact Nat.two_pow_pos _⟩) (by decide) (by simp) (by rw [← nf]; exact h.gp)
    rw [← nf, h.red] at e
    rw [← nf]
    exact e
  · rw [l_between (k + 2) f pa pb 0 a b l c d m (u := 4) (v1 := 4115) (v2 := 4115) (v3 := 0) (w1 := 225) (w2 := 225) (w3 := 225) (t1 := 225) (t2 := 225) (t3 := 225) (by omega) (by omega) (by omega) (by omega)]
    rw [Geo.lbtw_eq (ang_g h.ang) (ang_g gA) (ang_g gC), ← btw_g, btw_]
  · rw [r_is_between_places, c_is_between_places]
    have c0 := e_check_angle (k + 3) f pa pb 0 (u := 4) (v1 := 4115) (v2 := 4115) (w := 0) (by omega) h.ang
    have c1 := cA_ok (k + 3) hA
    have c2 := cA_ok (k + 3) hC
    have c3 := cO_ok (k + 6) hA
    have c4 := cO_ok (k + 6) hC
    have e := e_lies k f pa pb 0 a b l c d m (u := 4) (v1 := 4115) (v2 := 4115) (v3 := 0) (w1 := 225) (w2 := 225) (w3 := 225) (t1 := 225) (t2 := 225) (t3 := 225) (by omega) (by omega) (by omega) (by omega)
    simp [c0, c1, c2, c3, c4, e, btw_]
end G07

namespace G07
open PySem PySem.Spec PyProof.Rows L2 DL
variable {N : Nat} {S T : Sto} {f : Int} {A C : PyData}
abbrev rIn : List Sx := [.set 13 (.callK 34 0 [2, 0, 1] [.var 10, .var 9, .idx (.var 2) (.var 6)]), .set 14 (.or [.call 33 [.idx (.var 2) (.var 6), .var 9], .call 33 [.idx (.var 2) (.var 6), .var 10]]), .iff (.or [.cmp .eq (.ite (.var 5) (.var 13) (.or [.idx (.var 4) (.var 6), .var 13])) (.var 14), .and [.not (.var 5), .idx (.var 4) (.var 6), .var 13]]) [.ret (.cB false)] []]
abbrev rE (f : Int) (so : PyData) (w3 w4 w5 w6 w7 w8 w9 w10 w11 w12 w13 w14 w15 : Option W) : Env' := [some (.l 0), some (.d (.int f)), some (.d so), w3, w4, w5, w6, w7, w8, w9, w10, w11, w12, w13, w14, w15]
theorem eqB (u v : Bool) : c2 .eq (.bool u) (.bool v) = some (decide (u = v)) := by cases u <;> cases v <;> rfl
theorem right_in (k : Nat) (hA : GB f A) (hC : GB f C) {so : List PyData} (hs4 : so.length = 4) (hso : ∀ z ∈ so, GB f z) (w3 w6 w7 w8 w11 w12 w13 w14 w15 : Option W) :
    ∃ w6' w13' w14', frW (sm (k + 8)) .rng1 (.nm 6) rIn (rE f (.list so) w3 (some (.d (.list (so.map fun x => .bool (btwD x A C))))) (some (.d (.bool (oneD A C)))) w6 w7 w8 (some (.d A)) (some (.d C)) w11 w12 w13 w14 w15) [.d (.int 4)] = re (.nx (rE f (.list so) w3 (some (.d (.list (so.map fun x => .bool (btwD x A C))))) (some (.d (.bool (oneD A C)))) w6' w7 w8 (some (.d A)) (some (.d C)) w11 w12 w13' w14' w15)) := by
  obtain ⟨ρ', ⟨_, w6', w13', w14', rfl⟩, hr⟩ := frW_rel (Γ := sm (k + 8)) (k := .rng1) (p := .nm 6) (b := rIn) (ws := [.d (.int 4)]) (xs := rngUp 0 4) (ρ := rE f (.list so) w3 (some (.d (.list (so.map fun x => .bool (btwD x A C))))) (some (.d (.bool (oneD A C)))) w6 w7 w8 (some (.d A)) (some (.d C)) w11 w12 w13 w14 w15)
    (fun ys ρ => (∀ y ∈ ys, ∃ i : Int, y = .int i ∧ 0 ≤ i ∧ i < 4) ∧ ∃ w6 w13 w14, ρ = rE f (.list so) w3 (some (.d (.list (so.map fun x => .bool (btwD x A C))))) (some (.d (.bool (oneD A C)))) w6 w7 w8 (some (.d A)) (some (.d C)) w11 w12 w13 w14 w15) (fun _ => rfl) (by show 4 ≤ 100000; omega) ⟨(by
      intro y hy
      unfold rngUp at hy
      obtain ⟨i, hi, rfl⟩ := List.mem_map.mp hy
      have := List.mem_range.mp hi
      exact ⟨_, rfl, by omega, by omega⟩), _, _, _, rfl⟩ (by
      rintro y ys ρ ⟨hy, w6, w13, w14, rfl⟩
      obtain ⟨i, rfl, h0, h4⟩ := hy y List.mem_cons_self
      have hi : i.toNat < so.length := by omega
      have a1 : atD (.list so) (.int i) = some so[i.toNat] := by
        show atI so i = _
        unfold atI ixN
        rw [if_pos h0, if_pos (by omega)]
        simp [hi]
      have a2 : atD (.list (so.map fun x => PyData.bool (btwD x A C))) (.int i) = some (.bool (btwD so[i.toNat] A C)) := by
        show atI _ i = _
        unfold atI ixN
        rw [if_pos h0, if_pos (by simp; omega)]
        simp [hi]
      have hx := hso _ (List.getElem_mem hi)
      generalize so[i.toNat] = x at *
      have b1 := e_betweenD k hx hC hA
      have s1 := e_sameD (k + 1) hx hA
      have s2 := e_sameD (k + 1) hx hC
      obtain ⟨p1, p2⟩ := btwD_ways hx hA hC
      generalize btwD x A C = t1 at *
      generalize btwD x C A = t2 at *
      generalize oneD A C = o at *
      generalize oneD x A = o1 at *
      generalize oneD x C = o2 at *
      have pm : ∀ u v w : W, permW [u, v, w] [2, 0, 1] = some [w, u, v] := fun _ _ _ => rfl
      refine ⟨_, rE f (.list so) w3 (some (.d (.list (so.map fun x => .bool (btwD x A C))))) (some (.d (.bool o))) (some (.d (.int i))) w7 w8 (some (.d A)) (some (.d C)) w11 w12 (some (.d (.bool t2))) (some (.d (.bool (o1 || o2)))) w15, by rw [asg_nm], ?_, fun y h => hy y (List.mem_cons_of_mem _ h), _, _, _, rfl⟩
      cases o with
      | true =>
        have := p1 rfl
        subst this
        cases o1 <;> cases o2 <;> simp [a1, a2, b1, s1, s2, pm, eqB]
      | false =>
        obtain ⟨q1, q2⟩ := p2 rfl
        cases o1 <;> cases o2 <;> cases t1 <;> cases t2 <;> simp at q1 q2 <;> simp [a1, a2, b1, s1, s2, pm, eqB])
  exact ⟨w6', w13', w14', hr⟩
end G07

namespace G07
open PySem PySem.Spec PyProof.Rows L2 DL
variable {N : Nat} {S T : Sto} {f : Int} {A C : PyData}
abbrev rWy : List Sx := [.set 11 (.call 35 [.var 9, .var 10]), .iff (.or [.not (.call 71 [.var 11]), .cmp .ne (.callK 35 0 [1, 0] [.var 10, .var 9]) (.var 11)]) [.ret (.cB false)] [], .set 12 (.bin .add (.tup [.var 1]) (.call 51 [.tup [.bin .sub (.cI 0) (.bin .mul (.var 1) (.idx (.var 11) (.cI 1))), .idx (.var 11) (.cI 0), .cI 0]])), .iff (.or [.not (.call 64 [.var 12, .var 9, .var 10]), .cmp .isnt (.call 34 [.call 32 [.var 1, .var 11], .var 9, .var 10]) (.cB true)]) [.ret (.cB false)] []]
theorem neV2 (x y : Int) : c2 .ne (V2 x y) (V2 x y) = some false := by
  simp [c2, eqOk, SeqAt.shaped, PyData.canLay0, PyData.canLayAll0, PyData.depth, PyData.depthAll, PyData.eqv, PyData.eqvAll, beq_int]
theorem right_ways (k : Nat) (bf : Bd f 4) {so : PyData} {ps : List PyData} (hl : ps.length ≤ 100) (hps : ∀ z ∈ ps, ∃ A C, z = .tuple [A, C] ∧ GB f A ∧ GB f C) (w3 w4 w5 w6 w7 w8 w9 w10 w11 w12 w13 w14 w15 : Option W) :
    ∃ w9' w10' w11' w12', frW (sm (k + 10)) .seq (.tp [.nm 9, .nm 10]) rWy (rE f so w3 w4 w5 w6 w7 w8 w9 w10 w11 w12 w13 w14 w15) [.d (.tuple ps)] = re (.nx (rE f so w3 w4 w5 w6 w7 w8 w9' w10' w11' w12' w13 w14 w15)) := by
  obtain ⟨ρ', ⟨_, w9', w10', w11', w12', rfl⟩, hr⟩ := frW_rel (Γ := sm (k + 10)) (k := .seq) (p := .tp [.nm 9, .nm 10]) (b := rWy) (ws := [.d (.tuple ps)]) (xs := ps) (ρ := rE f so w3 w4 w5 w6 w7 w8 w9 w10 w11 w12 w13 w14 w15)
    (fun ys ρ => (∀ z ∈ ys, ∃ A C, z = .tuple [A, C] ∧ GB f A ∧ GB f C) ∧ ∃ w9 w10 w11 w12, ρ = rE f so w3 w4 w5 w6 w7 w8 w9 w10 w11 w12 w13 w14 w15) (fun _ => rfl) (by show _ ≤ 100000; omega) ⟨hps, _, _, _, _, rfl⟩ (by
      rintro z ys ρ ⟨hy, w9, w10, w11, w12, rfl⟩
      obtain ⟨A, C, rfl, hA, hC⟩ := hy z List.mem_cons_self
      obtain ⟨x, y, pa, pb, ht, e⟩ := e_told k hA hC
      have iw := l_is_way (k + 8) (p := x) (q := y) ht.b_y (by decide) ht.g1
      obtain ⟨u1, u2, u3, u4⟩ := ht.uses hA hC (k + 2)
      simp only [Int.zero_sub] at u2
      have b_y := ht.b_y
      have m1 : o2 .mul (.int f) (.int y) = some (.int (f * y)) := o2_mul_ (by decide)
      have pm : ∀ u v : W, permW [u, v] [1, 0] = some [v, u] := fun _ _ => rfl
      refine ⟨rE f so w3 w4 w5 w6 w7 w8 (some (.d A)) (some (.d C)) w11 w12 w13 w14 w15, rE f so w3 w4 w5 w6 w7 w8 (some (.d A)) (some (.d C)) (some (.d (V2 x y))) (some (.d (A4 f pa pb 0))) w13 w14 w15, by simp, ?_, fun y h => hy y (List.mem_cons_of_mem _ h), _, _, _, _, rfl⟩
      simp [e, iw, u1, u2, u3, u4, m1, pm, neV2])
  exact ⟨w9', w10', w11', w12', hr⟩
theorem rpr_bs {xs : List Bool} (h : xs.length = 4) : reprOk (.list (xs.map PyData.bool)) = true := by
  match xs, h with
  | [p, q, r, s], _ => cases p <;> cases q <;> cases r <;> cases s <;> decide +kernel
theorem l_right (k : Nat) (hN : N ≤ 10000) (h : WS N S T) : wp ((sm (k + 12)).call 72 [.l 0]) S fun w S' => ∃ d, w = .d d ∧ d = .bool true ∧ WS (N + 1000) S' T := by
  rw [r__law_right, c__law_right]
  refine wp_finD h ?_
  simp
  refine wp_mono (l_pick (k + 9) (by simp) (by simp) (by omega) h) ?_
  rintro _ S1 ⟨d, rfl, hd, h1⟩
  have hd : ∃ i : Int, d = .int i ∧ 1 ≤ i ∧ i ≤ 3 := by
    simp only [List.mem_cons, List.not_mem_nil, or_false] at hd
    rcases hd with rfl | rfl | rfl <;> exact ⟨_, rfl, by decide, by decide⟩
  obtain ⟨f, rfl, f1, f3⟩ := hd
  have bf : Bd f 4 := ⟨by omega⟩
  try simp
  refine wp_mono (l_pool (k + 3) f1 f3 (by omega) h1) ?_
  rintro _ S2 ⟨so, rfl, ⟨hs4, hso⟩, h2⟩
  simp [ex_fors]
  refine wp_for (fun ys ρ S' => ∃ w3 w4 w5 w6 w7 w8 w9 w10 w11 w12 w13 w14 w15 : Option W, ρ = rE f (.list so) w3 w4 w5 w6 w7 w8 w9 w10 w11 w12 w13 w14 w15 ∧ ys.length ≤ 4 ∧ WS (N + 401 + 2 * (4 - ys.length)) S' T) (xs := rngUp 0 4) (g := []) rfl (by show 4 ≤ 100000; decide) ⟨_, _, _, _, _, _, _, _, _, _, _, _, _, rfl, by decide, h2.mono (by omega)⟩ (fun _ _ _ _ i hi => by cases hi) ?_ ?_
  · rintro ρ' S' ⟨w3, w4, w5, w6, w7, w8, w9, w10, w11, w12, w13, w14, w15, rfl, _, hs⟩
    have hs : WS (N + 409) S' T := hs.mono (by simp <;> omega)
    simp
    refine wp_mono (l_pickD (k + 9) (xs := so) (by omega) (by omega) (by omega) hs) ?_
    rintro _ S3 ⟨A, rfl, hA, h3⟩
    have hA := hso A hA
    try simp
    refine wp_mono (l_pickD (k + 9) (xs := so) (by omega) (by omega) (by omega) h3) ?_
    rintro _ S4 ⟨C, rfl, hC, h4⟩
    have hC := hso C hC
    simp [ex_fors, -frT_cons, -frT_nil]
    obtain ⟨w9', w10', w11', w12', hr⟩ := right_ways (k + 1) bf (so := .list so) (ps := [.tuple [A, C], .tuple [C, A], .tuple [A, A]]) (by simp) (by
      intro z hz
      simp only [List.mem_cons, List.not_mem_nil, or_false] at hz
      rcases hz with rfl | rfl | rfl
      · exact ⟨A, C, rfl, hA, hC⟩
      · exact ⟨C, A, rfl, hC, hA⟩
      · exact ⟨A, A, rfl, hA, hA⟩) w3 w4 w5 w6 (some (.d A)) (some (.d C)) w9 w10 w11 w12 w13 w14 w15
    rw [hr, wp_re_iff, seqF_nx]
    simp
    refine wp_mono (l_gaps (k + 1) f1 f3 hs4 hso (by omega) h4) ?_
    rintro _ S5 ⟨_, rfl, rfl, h5⟩
    simp
    exact ⟨[], ws_nil (h5.mono (by omega))⟩
  · rintro x ys ρ S' ⟨w3, w4, w5, w6, w7, w8, w9, w10, w11, w12, w13, w14, w15, rfl, hl, hs⟩
    have hl : ys.length ≤ 3 := by simp at hl; omega
    have hs : WS (N + 401 + 2 * (3 - ys.length)) S' T := hs.mono (by simp)
    simp
    refine wp_mono (l_pickD (k + 9) (xs := so) (by omega) (by omega) (by omega) hs) ?_
    rintro _ S3 ⟨A, rfl, hA, h3⟩
    have hA := hso A hA
    try simp
    refine wp_mono (l_pickD (k + 9) (xs := so) (by omega) (by omega) (by omega) h3) ?_
    rintro _ S4 ⟨C, rfl, hC, h4⟩
    have hC := hso C hC
    have cm1 : cmW' (sm (k + 11)) .seq (.nm 15) [] (.call 64 [.var 15, .var 9, .var 10]) (rE f (.list so) (some (.d x)) w4 w5 w6 w7 w8 (some (.d A)) (some (.d C)) w11 w12 w13 w14 none) [.d (.list so)] = re (.d (.list (so.map fun x => .bool (btwD x A C)))) := cm_lst _ (by show _ ≤ 100000; omega) fun x hx => by
      have e := l_betweenD (k + 5) (hso x hx) hA hC
      exact ⟨_, by rw [asg_nm], by simp [e]⟩
    have cm2 : ∀ w4, cmW' (sm (k + 11)) .seq (.nm 15) [] (.call 34 [.var 15, .var 9, .var 10]) (rE f (.list so) (some (.d x)) w4 w5 w6 w7 w8 (some (.d A)) (some (.d C)) w11 w12 w13 w14 none) [.d (.list so)] = re (.d (.list (so.map fun x => .bool (btwD x A C)))) := fun w4 => cm_lst _ (by show _ ≤ 100000; omega) fun x hx => by
      have e := e_betweenD (k + 3) (hso x hx) hA hC
      exact ⟨_, by rw [asg_nm], by simp [e]⟩
    have rp : reprOk (.list (so.map fun x => .bool (btwD x A C))) = true := by
      have := rpr_bs (xs := so.map fun x => btwD x A C) (by simpa using hs4)
      rwa [List.map_map] at this
    have sme := e_sameD (k + 4) hA hC
    obtain ⟨w6', w13', w14', hr⟩ := right_in (k + 3) hA hC hs4 hso (some (.d x)) w6 w7 w8 w11 w12 w13 w14 w15
    simp [ev_cmpr, wipeE, cm1, cm2, rp, sme, ex_fors]
    rw [hr]
    simp
    exact ⟨by omega, h4.mono (by omega)⟩
end G07

namespace G07
open PySem PySem.Spec PyProof.Rows L2 DL
theorem ws_one {N : Nat} {S : Sto} (h : WS N S []) : S.length = 1 := by
  obtain ⟨r, c, t, rfl, _⟩ := h
  rfl
theorem ex_iffT {Γ : Sm} {t : Ex} {a b : List Sx} {ρ : Env'} {S : Sto} {Q : Fl → Sto → Prop} (h : wp (bnd (evE Γ t ρ) truthB) S fun k S' => wp (if k = true then exSs Γ a ρ else exSs Γ b ρ) (S'.take S.length) Q) : wp (exS Γ (.iffT t a b) ρ) S Q := by
  obtain ⟨k, S', h1, f, S2, h2, q⟩ := h
  refine ⟨f, S2, ?_, q⟩
  rw [exS]
  show (bnd (bnd (evE Γ t ρ) truthB) _) S = _
  unfold bnd at h1 ⊢
  rw [h1]
  exact h2
theorem l_law (k : Nat) (ns : List Int) (hl : ns.length ≤ 63) : (sm (k + 13)).call 73 [.d (.list (ns.map PyData.int))] [] = some (.ok (.d (.bool true)) []) := by
  have key : wp ((sm (k + 13)).call 73 [.d (.list (ns.map PyData.int))]) [] fun w S' => w = .d (.bool true) ∧ S' = [] := by
    rw [r_law, c_law]
    obtain ⟨m, hm2, hm3, hm⟩ := l_rounds (k + 11) (ns.map PyData.int)
    refine wp_fin (wp_mono (Q := fun g S' => g = .rt (.d (.bool true)) ∧ S' = []) ?_ ?_)
    · simp [ex_fors, hm]
      have hsm : small62 m = true := by unfold small62; simp; omega
      refine wp_for (fun ys ρ S' => S' = [] ∧ (∀ y ∈ ys, ∃ i : Int, y = .int i ∧ 0 ≤ i ∧ i ≤ 3) ∧ ∃ w1, ρ = [some (.d (.list (ns.map PyData.int))), w1]) (xs := rngUp 0 m.toNat) (g := []) (by
        show (if small62 m = true then some (rngUp 0 m.toNat, ([] : List Nat)) else none) = _
        rw [if_pos hsm]) (by unfold rngUp; simp; show m ≤ 100000; omega) ⟨rfl, (by
          intro y hy
          unfold rngUp at hy
          obtain ⟨i, hi, rfl⟩ := List.mem_map.mp hy
          have := List.mem_range.mp hi
          exact ⟨_, rfl, by omega, by omega⟩), _, rfl⟩ (fun _ _ _ _ i hi => by cases hi) ?_ ?_
      · rintro ρ' S' ⟨rfl, _, w1, rfl⟩
        simp
      · rintro x ys ρ S' ⟨rfl, hy, w1, rfl⟩
        obtain ⟨i, rfl, h0, h3⟩ := hy x List.mem_cons_self
        simp
        refine ex_iffT ?_
        simp
        refine wp_mono (l_well (k + 11) ns hl h0 h3) ?_
        rintro _ S1 ⟨rfl, hs1⟩
        refine wp_mono (l_right k (by omega) hs1) ?_
        rintro _ S2 ⟨_, rfl, rfl, hs2⟩
        simp
        exact fun y hh => hy y (List.mem_cons_of_mem _ hh)
    · rintro g S' ⟨rfl, rfl⟩
      exact ⟨rfl, rfl⟩
  obtain ⟨w, S', h1, rfl, rfl⟩ := key
  exact h1
theorem l_law0 (ns : List Int) (hl : ns.length ≤ 63) : (sm 30).call 73 [.d (.list (ns.map PyData.int))] [] = some (.ok (.d (.bool true)) []) := l_law (k := 17) ns hl
end G07

open PySem PySem.W PySem.Calls PyProof.Rows
theorem PySem.Challenge.cw_steamgears_k07_whole_places_between_holds : PySem.Challenge.rw_steamgears_k07_whole_places_between.Holds := by
  w_on; o_law
  refine HandSHeadRun.head_imp (r := G07.R) (q := view G07.R.prog [0, 91]) (H := G07.hk) (ob := DL.obD G07.as G07.T G07.gls G07.fnD) (M := 3928) (loose := G07.nms) (d := HandSHeadRun.topDef G07.R.prog 91) (kwd := []) (DL.obD_eq _ _ _ _)
    G07.run (by kernel_rfl) (by kernel_rfl) (by kernel_rfl) (by rfl) (by first | assumption | decide +kernel) (by decide +kernel) ⟨rfl, rfl, rfl, rfl, rfl, by decide +kernel⟩ ?hw ?hc
  case hw => w_witness2
  case hc =>
    refine DL.walkG (l := PySem.Challenge.rw_steamgears_k07_whole_places_between) (n := 63) (k := 32) (x := "script") rfl (by decide) (by kernel_rfl) ⟨rfl, by decide, by decide⟩ ?F
    intro w mg fa h Y G hmg0
    obtain ⟨K, KX, c, s⟩ := Y
    have hmg : mg ("law" : PySem.Str) = some (.ref fa) := by
      have e : (HandSHeadRun.topDef G07.R.prog 91).name = ("law" : PySem.Str) := by kernel_rfl
      rw [← e]
      exact hmg0
    obtain ⟨fd, F⟩ := s.def_ 73 (d := G07.dd 91 "law" "law") rfl
    have e := hmg.symm.trans (DL.okX_fn KX G c (f := 73) (by decide))
    cases e
    have b := L2.FunD.bindsA (ps := ["script"]) F fun _ _ _ _ _ _ us hl => match us, hl with | [_], _ => rfl
    refine ⟨K, fd, DL.xrOf K G07.T.nc G07.T.hasI (DL.clA K G07.T), (G07.sm 30).call 73, KX, DL.okX_no c, fun s v => b s [v] rfl, fun ns hl _ => G07.l_law0 ns hl, fun base KB GB => ?_⟩
    have hf2 := G07.facts (P := (PySem.Challenge.rw_steamgears_k07_whole_places_between).prog) (w := w) (mg := mg) KX G c s
    have hgl := DL.okX_glo (P := (PySem.Challenge.rw_steamgears_k07_whole_places_between).prog) (w := w) KX G c (G07.inis c s)
    have IH := DL.fns (base := base) DL.xrOf_ok rfl hgl hf2
    show DL.FnG _ _ _ _ _ _ (31 + 1) _ _ _ _
    exact DL.fn_G (f := 73) (sm := G07.sm 29) F (DL.scope_by (ps := ["script"]) (N := G07.N_law) (by decide +kernel)) (by decide +kernel) G07.k_law DL.xrOf_ok rfl (by omega) hgl (DL.smk_glob _ _ _ _) (DL.smk_exc _ _ _ _) (DL.smk_hasI _ _ _ _) (IH 29)
