import PyProof.Rows.All
import Wide.All
import OpenK.AllK
import Wide.FinOn
import HandS.ForMost
import HandS.ForExc
import HandS.ExcOwn
import HandS.WordsExc
import HandS.CallSlots
import HandS.TupAny
import HandS.TupMul
import HandS.Wide
import HandS.Defaults
import HandS.MakeKw
import HandS.Conv
import HandS.EndBits
import HandS.Flow
import HandS.Dict
import HandS.IsInst
import HandS.RaiseMore
import KE.KUnpackStar
import HandS.MakeKwOnly
import HandS.Zip
import KE.GoesMore
import KE.GoesEnumKw
import PyProof.Rows.CallKwBuiltin
import HandS.Style
import HandS.SetBool
import HandS.Strs
import HandS.SortInts
import HandS.FStr
import HandS.Text
import HandS.More
import PyProof.Rows.EnumRows
import PySem.Challenge.RW_crowdsay_k83_sentences_written_and_read
set_option Elab.async false
set_option linter.all false
set_option maxRecDepth 100000
set_option maxHeartbeats 4000000
/-! DL: an abstract machine of Python over plain data, and its agreement with the model by the hand layer. -/
namespace DL
open PySem PySem.Spec PyProof.Rows L2

/-! ### data, stores, results -/
inductive D where
  | non
  | bl (b : Bool)
  | int (i : Int)
  | str (x : Str)
  | tup (ds : List D)
  | lst (ds : List D)
  /-- a list that stands from outside (the script) -/
  | scr (ds : List D)
  | obj (C : Str) (ns : List Str) (ds : List D)
  | ref (n : Nat)

inductive MO where
  | lst (ds : List D)
  | ins (C : Str) (ns : List Str) (ds : List D)
  /-- a dict: its keys in order, what they bear -/
  | dk (ks : List L2.Key) (ds : List D)
  /-- a dict whose keys are tuples -/
  | dt (ks : List (List L2.Key)) (ds : List D)
  | dead

abbrev Sto := List MO

structure Xn where
  cls : Str
  ns : List Str
  ds : List D

inductive Res (α : Type) where
  | ok (a : α) (M : Sto)
  | exc (x : Xn) (M : Sto)
  | stuck

def Res.bind {α β : Type} (r : Res α) (f : α → Sto → Res β) : Res β := match r with
  | .ok a M => f a M
  | .exc x M => .exc x M
  | .stuck => .stuck

/-- an equation that no check opens by itself -/
theorem eqn {α : Sort _} {a b : α} (h : a = b) : a = b := h
@[simp] theorem Res.bind_ok {α β : Type} (a : α) (M : Sto) (f : α → Sto → Res β) : (Res.ok a M).bind f = f a M := eqn rfl
@[simp] theorem Res.bind_exc {α β : Type} (x : Xn) (M : Sto) (f : α → Sto → Res β) : (Res.exc x M : Res α).bind f = .exc x M := rfl
@[simp] theorem Res.bind_stuck {α β : Type} (f : α → Sto → Res β) : (Res.stuck : Res α).bind f = .stuck := rfl

abbrev DEnv := List (Option D)
abbrev ME := DEnv → Sto → Res D
abbrev MA := DEnv → Sto → Res (List D)
abbrev MT := DEnv → Sto → Res Bool
abbrev Fn := List D → Sto → Res D

/-! ### what stands for what -/
section
variable (K : PySem.W.Frag) (mg : Str → Option Value) (F : Hp) (ρ : List Addr)
mutual
def Rep : D → V → Prop
  | .non, v => v = .non
  | .bl b, v => v = .bl b
  | .int i, v => v = .int i
  | .str x, v => v = .str x
  | .tup ds, v => ∃ a vs, v = .ref a ∧ F a = some (.tup vs) ∧ Reps ds vs
  | .lst ds, v => ∃ a vs, v = .ref a ∧ F a = some (.lst vs) ∧ Reps ds vs
  | .scr ds, v => ∃ a vs, v = .ref a ∧ SqL K F a vs ∧ Reps ds vs
  | .obj C ns ds, v => ∃ a Ca dx vs, v = .ref a ∧ mg C = some (.ref Ca) ∧ F a = some (.ins Ca dx (ns.zip vs)) ∧ ns.length = ds.length ∧ Reps ds vs
  | .ref n, v => ∃ a, v = .ref a ∧ ρ[n]? = some a
def Reps : List D → List V → Prop
  | [], vs => vs = []
  | d :: ds, vs => ∃ v r, vs = v :: r ∧ Rep d v ∧ Reps ds r
end
end

def Sub (F F' : Hp) : Prop := ∀ a o, F a = some o → F' a = some o
theorem Sub.refl (F : Hp) : Sub F F := fun _ _ h => h
theorem Sub.trans {F F' F'' : Hp} (a : Sub F F') (b : Sub F' F'') : Sub F F'' := fun c o h => b c o (a c o h)
theorem Sub.rd {F F' : Hp} (s : Sub F F') {a : Addr} {u : HO} (h : Rd F a u) : Rd F' a u := by
  rcases h with h | ⟨o, h⟩
  · exact .inl (s _ _ h)
  · exact .inr ⟨o, s _ _ h⟩
theorem Sub.sqL {K : PySem.W.Frag} {F F' : Hp} (s : Sub F F') {a : Addr} {xs : List V} (h : SqL K F a xs) : SqL K F' a xs := by
  rcases h with h | h
  · exact .inl (s.rd h)
  · exact .inr h
theorem Sub.sqT {K : PySem.W.Frag} {F F' : Hp} (s : Sub F F') {a : Addr} {xs : List V} (h : SqT K F a xs) : SqT K F' a xs := by
  rcases h with h | h
  · exact .inl (s.rd h)
  · exact .inr h
def Pre (ρ ρ' : List Addr) : Prop := ∃ t, ρ' = ρ ++ t
theorem Pre.refl (ρ : List Addr) : Pre ρ ρ := ⟨[], by simp⟩
theorem Pre.trans {a b c : List Addr} (h : Pre a b) (k : Pre b c) : Pre a c := by
  obtain ⟨t, rfl⟩ := h
  obtain ⟨u, rfl⟩ := k
  exact ⟨t ++ u, by simp⟩
theorem Pre.get {a b : List Addr} (h : Pre a b) {n : Nat} {x : Addr} (e : a[n]? = some x) : b[n]? = some x := by
  obtain ⟨t, rfl⟩ := h
  rw [List.getElem?_append_left (List.getElem?_eq_some_iff.mp e).1]
  exact e
theorem Pre.mem {a b : List Addr} (h : Pre a b) {x : Addr} (e : x ∈ a) : x ∈ b := by
  obtain ⟨t, rfl⟩ := h
  exact List.mem_append_left _ e

section
variable {K : PySem.W.Frag} {mg : Str → Option Value} {F F' : Hp} {ρ ρ' : List Addr}
mutual
theorem Rep.mono (s : Sub F F') (p : Pre ρ ρ') : ∀ {d : D} {v : V}, Rep K mg F ρ d v → Rep K mg F' ρ' d v
  | .non, _, h => h
  | .bl _, _, h => h
  | .int _, _, h => h
  | .str _, _, h => h
  | .tup _, _, h => by
    unfold Rep at h ⊢
    obtain ⟨a, vs, e, q, r⟩ := h
    exact ⟨a, vs, e, s _ _ q, Reps.mono s p r⟩
  | .lst _, _, h => by
    unfold Rep at h ⊢
    obtain ⟨a, vs, e, q, r⟩ := h
    exact ⟨a, vs, e, s _ _ q, Reps.mono s p r⟩
  | .scr _, _, h => by
    unfold Rep at h ⊢
    obtain ⟨a, vs, e, q, r⟩ := h
    exact ⟨a, vs, e, s.sqL q, Reps.mono s p r⟩
  | .obj _ _ _, _, h => by
    unfold Rep at h ⊢
    obtain ⟨a, Ca, dx, vs, e, m, q, l, r⟩ := h
    exact ⟨a, Ca, dx, vs, e, m, s _ _ q, l, Reps.mono s p r⟩
  | .ref _, _, h => by
    unfold Rep at h ⊢
    obtain ⟨a, e, q⟩ := h
    exact ⟨a, e, p.get q⟩
theorem Reps.mono (s : Sub F F') (p : Pre ρ ρ') : ∀ {ds : List D} {vs : List V}, Reps K mg F ρ ds vs → Reps K mg F' ρ' ds vs
  | [], _, h => by unfold Reps at h ⊢; exact h
  | _ :: _, _, h => by
    unfold Reps at h ⊢
    obtain ⟨v, r, e, a, b⟩ := h
    exact ⟨v, r, e, Rep.mono s p a, Reps.mono s p b⟩
end
theorem Reps.nil : Reps K mg F ρ [] [] := by unfold Reps; rfl
theorem Reps.cons {d : D} {v : V} {ds : List D} {vs : List V} (a : Rep K mg F ρ d v) (b : Reps K mg F ρ ds vs) : Reps K mg F ρ (d :: ds) (v :: vs) := by
  unfold Reps; exact ⟨v, vs, rfl, a, b⟩
theorem Reps.inv_nil {vs : List V} (h : Reps K mg F ρ [] vs) : vs = [] := by unfold Reps at h; exact h
theorem Reps.inv_cons {d : D} {ds : List D} {vs : List V} (h : Reps K mg F ρ (d :: ds) vs) : ∃ v r, vs = v :: r ∧ Rep K mg F ρ d v ∧ Reps K mg F ρ ds r := by unfold Reps at h; exact h
theorem Reps.len : ∀ {ds : List D} {vs : List V}, Reps K mg F ρ ds vs → vs.length = ds.length
  | [], _, h => by rw [h.inv_nil]; rfl
  | _ :: _, _, h => by
    obtain ⟨v, r, rfl, _, b⟩ := h.inv_cons
    simp [Reps.len b]
theorem Reps.get : ∀ {ds : List D} {vs : List V} {i : Nat} {d : D}, Reps K mg F ρ ds vs → ds[i]? = some d → ∃ v, vs[i]? = some v ∧ Rep K mg F ρ d v
  | [], _, _, _, _, e => by simp at e
  | _ :: _, _, 0, _, h, e => by
    obtain ⟨v, r, rfl, a, _⟩ := h.inv_cons
    simp at e; subst e
    exact ⟨v, rfl, a⟩
  | _ :: _, _, i + 1, _, h, e => by
    obtain ⟨v, r, rfl, _, b⟩ := h.inv_cons
    obtain ⟨u, h1, h2⟩ := Reps.get (i := i) b (by simpa using e)
    exact ⟨u, by simpa using h1, h2⟩
theorem Reps.getV : ∀ {ds : List D} {vs : List V} {i : Nat} {v : V}, Reps K mg F ρ ds vs → vs[i]? = some v → ∃ d, ds[i]? = some d ∧ Rep K mg F ρ d v := fun {ds vs i v} h e => by
  have hl := h.len
  have hi := (List.getElem?_eq_some_iff.mp e).1
  obtain ⟨u, h1, h2⟩ := h.get (i := i) (d := ds[i]'(by omega)) (by simp)
  rw [e] at h1; cases h1
  exact ⟨_, by simp, h2⟩
theorem Reps.append : ∀ {ds es : List D} {vs us : List V}, Reps K mg F ρ ds vs → Reps K mg F ρ es us → Reps K mg F ρ (ds ++ es) (vs ++ us)
  | [], _, _, _, h, k => by rw [h.inv_nil]; exact k
  | _ :: _, _, _, _, h, k => by
    obtain ⟨v, r, rfl, a, b⟩ := h.inv_cons
    exact .cons a (Reps.append b k)
theorem Reps.set : ∀ {ds : List D} {vs : List V} {d : D} {v : V} (i : Nat), Reps K mg F ρ ds vs → Rep K mg F ρ d v → Reps K mg F ρ (ds.set i d) (vs.set i v)
  | [], _, _, _, i, h, _ => by rw [h.inv_nil]; simpa using Reps.nil
  | _ :: _, _, _, _, 0, h, k => by
    obtain ⟨v, r, rfl, _, b⟩ := h.inv_cons
    exact .cons k b
  | _ :: _, _, _, _, i + 1, h, k => by
    obtain ⟨v, r, rfl, a, b⟩ := h.inv_cons
    exact .cons a (Reps.set i b k)
theorem Reps.drop : ∀ {ds : List D} {vs : List V} (n : Nat), Reps K mg F ρ ds vs → Reps K mg F ρ (ds.drop n) (vs.drop n)
  | _, _, 0, h => by simpa using h
  | [], _, _ + 1, h => by rw [h.inv_nil]; simpa using Reps.nil
  | _ :: _, _, n + 1, h => by
    obtain ⟨v, r, rfl, _, b⟩ := h.inv_cons
    simpa using Reps.drop n b
theorem Reps.take : ∀ {ds : List D} {vs : List V} (n : Nat), Reps K mg F ρ ds vs → Reps K mg F ρ (ds.take n) (vs.take n)
  | _, _, 0, _ => by simpa using Reps.nil
  | [], _, _ + 1, h => by rw [h.inv_nil]; simpa using Reps.nil
  | _ :: _, _, n + 1, h => by
    obtain ⟨v, r, rfl, a, b⟩ := h.inv_cons
    simpa using Reps.cons a (Reps.take n b)
theorem Reps.flat : ∀ {dss : List (List D)} {vss : List (List V)}, Paired (Reps K mg F ρ) dss vss → Reps K mg F ρ dss.flatten vss.flatten
  | _, _, .nil => .nil
  | _, _, .cons r t => by simpa using r.append (Reps.flat t)
end

/-! ### the state -/
def MOk (K : PySem.W.Frag) (mg : Str → Option Value) (F : Hp) (ρ : List Addr) (H : Hp) (a : Addr) : MO → Prop
  | .lst ds => F a = none ∧ ∃ vs, H a = some (.lst vs) ∧ Reps K mg F ρ ds vs ∧ vs.length ≤ sizeLine
  | .ins C ns ds => F a = none ∧ ∃ Ca dx vs, mg C = some (.ref Ca) ∧ H a = some (.ins Ca dx (ns.zip vs)) ∧ ns.length = ds.length ∧ Reps K mg F ρ ds vs
  | .dk ks ds => F a = none ∧ ∃ vs, H a = some (.dK (ks.zip vs)) ∧ ks.length = ds.length ∧ Reps K mg F ρ ds vs ∧ ks.length ≤ sizeLine
  | .dt ks ds => F a = none ∧ ∃ vs, H a = some (.dT (ks.zip vs)) ∧ ks.length = ds.length ∧ Reps K mg F ρ ds vs ∧ ks.length ≤ sizeLine
  | .dead => True

structure StOk (K : PySem.W.Frag) (mg : Str → Option Value) (F : Hp) (ρ : List Addr) (M : Sto) (H : Hp) : Prop where
  sub : Sub F H
  szL : ∀ a vs, SqL K F a vs → vs.length ≤ sizeLine
  szT : ∀ a vs, SqT K F a vs → vs.length ≤ sizeLine
  len : ρ.length = M.length
  nd : ρ.Nodup
  trk : ∀ a ∈ ρ, H a ≠ none
  at_ : ∀ (n : Nat) (o : MO), M[n]? = some o → ∃ a, ρ[n]? = some a ∧ MOk K mg F ρ H a o

structure Grow (F : Hp) (ρ : List Addr) (H : Hp) (F' : Hp) (ρ' : List Addr) (H' : Hp) : Prop where
  f : Sub F F'
  r : Pre ρ ρ'
  fresh : ∀ a ∈ ρ', a ∈ ρ ∨ H a = none
  keep : ∀ a o, H a = some o → a ∉ ρ → H' a = some o
  ff : ∀ a o, F' a = some o → F a = some o ∨ H a = none ∨ a ∈ ρ

theorem Grow.refl (F : Hp) (ρ : List Addr) (H : Hp) : Grow F ρ H F ρ H := ⟨Sub.refl _, Pre.refl _, fun _ h => .inl h, fun _ _ h _ => h, fun _ _ h => .inl h⟩
theorem Grow.trans {F F1 F2 : Hp} {ρ ρ1 ρ2 : List Addr} {H H1 H2 : Hp} (a : Grow F ρ H F1 ρ1 H1) (b : Grow F1 ρ1 H1 F2 ρ2 H2) : Grow F ρ H F2 ρ2 H2 where
  f := a.f.trans b.f
  r := a.r.trans b.r
  fresh := fun x hx => by
    rcases b.fresh x hx with h | h
    · exact a.fresh x h
    · by_cases hm : x ∈ ρ
      · exact .inl hm
      · right
        cases q : H x with
        | none => rfl
        | some o => rw [a.keep x o q hm] at h; cases h
  keep := fun x o e n => b.keep x o (a.keep x o e n) fun hm => by
    rcases a.fresh x hm with h | h
    · exact n h
    · rw [h] at e; cases e
  ff := fun x o e => by
    rcases b.ff x o e with h | h | h
    · exact a.ff x o h
    · by_cases hm : x ∈ ρ
      · exact .inr (.inr hm)
      · right; left
        cases q : H x with
        | none => rfl
        | some u => rw [a.keep x u q hm] at h; cases h
    · rcases a.fresh x h with h | h
      · exact .inr (.inr h)
      · exact .inr (.inl h)

/-- Γ is what the slots bear -/
def GOk (K : PySem.W.Frag) (mg : Str → Option Value) (F : Hp) (ρ : List Addr) (Γ : DEnv) (σ : L2.St) : Prop :=
  Γ.length = σ.length ∧ ∀ (i : Nat) d, Γ[i]? = some (some d) → ∃ v, σ[i]? = some (some v) ∧ Rep K mg F ρ d v
section
variable {K : PySem.W.Frag} {mg : Str → Option Value} {F F' : Hp} {ρ ρ' : List Addr} {H H' : Hp} {Γ : DEnv} {σ : L2.St} {M : Sto}
theorem GOk.mono (g : GOk K mg F ρ Γ σ) (s : Sub F F') (p : Pre ρ ρ') : GOk K mg F' ρ' Γ σ :=
  ⟨g.1, fun i d e => let ⟨v, h1, h2⟩ := g.2 i d e; ⟨v, h1, h2.mono s p⟩⟩
theorem GOk.grow (g : GOk K mg F ρ Γ σ) (gr : Grow F ρ H F' ρ' H') : GOk K mg F' ρ' Γ σ := g.mono gr.f gr.r
theorem GOk.set (g : GOk K mg F ρ Γ σ) {d : D} {v : V} (i : Nat) (r : Rep K mg F ρ d v) : GOk K mg F ρ (Γ.set i (some d)) (σ.set i (some v)) := by
  refine ⟨by simp [g.1], fun j e h => ?_⟩
  by_cases hj : i = j
  · subst hj
    have hi : i < Γ.length := by
      have := (List.getElem?_eq_some_iff.mp h).1
      simpa using this
    rw [List.getElem?_set_self hi] at h
    cases h
    exact ⟨v, List.getElem?_set_self (by rw [← g.1]; exact hi), r⟩
  · rw [List.getElem?_set_ne hj] at h
    rw [List.getElem?_set_ne hj]
    exact g.2 j e h
theorem GOk.unset (g : GOk K mg F ρ Γ σ) (i : Nat) : GOk K mg F ρ (Γ.set i none) (σ.set i none) := by
  refine ⟨by simp [g.1], fun j e h => ?_⟩
  by_cases hj : i = j
  · subst hj
    have hi : i < Γ.length := by
      have := (List.getElem?_eq_some_iff.mp h).1
      simpa using this
    rw [List.getElem?_set_self hi] at h
    cases h
  · rw [List.getElem?_set_ne hj] at h
    rw [List.getElem?_set_ne hj]
    exact g.2 j e h
theorem MOk.mono {a : Addr} {o : MO} (s : Sub F F') (p : Pre ρ ρ') (hF : F a = none → F' a = none) (h : H a = none ∨ H' a = H a) (x : MOk K mg F ρ H a o) : MOk K mg F' ρ' H' a o := by
  cases o with
  | lst ds =>
    obtain ⟨n, vs, e, r, z⟩ := x
    rcases h with h | h
    · rw [h] at e; cases e
    · exact ⟨hF n, vs, by rw [h]; exact e, r.mono s p, z⟩
  | ins C ns ds =>
    obtain ⟨n, Ca, dx, vs, m, e, l, r⟩ := x
    rcases h with h | h
    · rw [h] at e; cases e
    · exact ⟨hF n, Ca, dx, vs, m, by rw [h]; exact e, l, r.mono s p⟩
  | dk ks ds =>
    obtain ⟨n, vs, e, l, r, z⟩ := x
    rcases h with h | h
    · rw [h] at e; cases e
    · exact ⟨hF n, vs, by rw [h]; exact e, l, r.mono s p, z⟩
  | dt ks ds =>
    obtain ⟨n, vs, e, l, r, z⟩ := x
    rcases h with h | h
    · rw [h] at e; cases e
    · exact ⟨hF n, vs, by rw [h]; exact e, l, r.mono s p, z⟩
  | dead => trivial

theorem sqL_ne {F : Hp} {p a : Addr} {o : HO} {vs : List V} (h : SqL K (upd F p o) a vs) : SqL K F a vs ∨ (a = p ∧ (o = .lst vs ∨ ∃ ob, o = .frz ob (.lst vs))) := by
  rcases h with (h | ⟨ob, h⟩) | h
  · by_cases e : a = p
    · subst e; rw [upd_same] at h; exact .inr ⟨rfl, .inl (Option.some.inj h)⟩
    · rw [upd_ne e] at h; exact .inl (.inl (.inl h))
  · by_cases e : a = p
    · subst e; rw [upd_same] at h; exact .inr ⟨rfl, .inr ⟨ob, Option.some.inj h⟩⟩
    · rw [upd_ne e] at h; exact .inl (.inl (.inr ⟨ob, h⟩))
  · exact .inl (.inr h)
theorem sqT_ne {F : Hp} {p a : Addr} {o : HO} {vs : List V} (h : SqT K (upd F p o) a vs) : SqT K F a vs ∨ (a = p ∧ (o = .tup vs ∨ ∃ ob, o = .frz ob (.tup vs))) := by
  rcases h with (h | ⟨ob, h⟩) | h
  · by_cases e : a = p
    · subst e; rw [upd_same] at h; exact .inr ⟨rfl, .inl (Option.some.inj h)⟩
    · rw [upd_ne e] at h; exact .inl (.inl (.inl h))
  · by_cases e : a = p
    · subst e; rw [upd_same] at h; exact .inr ⟨rfl, .inr ⟨ob, Option.some.inj h⟩⟩
    · rw [upd_ne e] at h; exact .inl (.inl (.inr ⟨ob, h⟩))
  · exact .inl (.inr h)

theorem StOk.ok_lt (st : StOk K mg F ρ M H) {n : Nat} {o : MO} (e : M[n]? = some o) : ∃ a, ρ[n]? = some a ∧ a ∈ ρ ∧ MOk K mg F ρ H a o := by
  obtain ⟨a, h1, h2⟩ := st.at_ n o e
  exact ⟨a, h1, List.mem_of_getElem? h1, h2⟩
theorem StOk.notin (st : StOk K mg F ρ M H) {p : Addr} (n : H p = none) : p ∉ ρ := fun h => st.trk p h n
theorem StOk.fnone (st : StOk K mg F ρ M H) {p : Addr} (n : H p = none) : F p = none := by
  cases q : F p with
  | none => rfl
  | some o => rw [st.sub p o q] at n; cases n

/-- the size of what a new thing holds -/
def SzOk : HO → Prop
  | .lst vs => vs.length ≤ sizeLine
  | .tup vs => vs.length ≤ sizeLine
  | .frz _ _ => False
  | _ => True

/-- a new thing that never changes -/
theorem StOk.lay (st : StOk K mg F ρ M H) {p : Addr} {o : HO} (n : H p = none) (z : SzOk o) : StOk K mg (upd F p o) ρ M (upd H p o) ∧ Grow F ρ H (upd F p o) ρ (upd H p o) := by
  have hF := st.fnone n
  have hs : Sub F (upd F p o) := fun a u e => by rw [upd_ne (ne_of_none e hF)]; exact e
  have hp := st.notin n
  refine ⟨⟨fun a u e => ?_, fun a vs h => ?_, fun a vs h => ?_, st.len, st.nd, fun a ha => ?_, fun m u e => ?_⟩, ⟨hs, Pre.refl _, fun _ h => .inl h, fun a u e _ => by rw [upd_ne (ne_of_none e n)]; exact e, fun a u e => by
    by_cases q : a = p
    · subst q; exact .inr (.inl n)
    · rw [upd_ne q] at e; exact .inl e⟩⟩
  · by_cases q : a = p
    · subst q; rw [upd_same] at e ⊢; exact e
    · rw [upd_ne q] at e ⊢; exact st.sub a u e
  · rcases sqL_ne h with h | ⟨_, h | ⟨ob, h⟩⟩
    · exact st.szL a vs h
    · subst h; exact z
    · subst h; exact z.elim
  · rcases sqT_ne h with h | ⟨_, h | ⟨ob, h⟩⟩
    · exact st.szT a vs h
    · subst h; exact z
    · subst h; exact z.elim
  · rw [upd_ne (fun q => hp (by rw [← q]; exact ha))]; exact st.trk a ha
  · obtain ⟨a, h1, h2⟩ := st.at_ m u e
    have ne : a ≠ p := fun q => hp (q ▸ List.mem_of_getElem? h1)
    exact ⟨a, h1, h2.mono hs (Pre.refl _) (fun q => by rw [upd_ne ne]; exact q) (.inr (upd_ne ne))⟩

/-- a thing comes that nobody here knows (a dict of an instance, ..) -/
theorem StOk.other (st : StOk K mg F ρ M H) {p : Addr} {o : HO} (n : H p = none) : StOk K mg F ρ M (upd H p o) ∧ Grow F ρ H F ρ (upd H p o) := by
  have hp := st.notin n
  have hs : Sub F (upd H p o) := fun a u e => by rw [upd_ne (ne_of_none (st.sub a u e) n)]; exact st.sub a u e
  refine ⟨⟨hs, st.szL, st.szT, st.len, st.nd, fun a ha => ?_, fun m u e => ?_⟩, ⟨Sub.refl _, Pre.refl _, fun _ h => .inl h, fun a u e _ => by rw [upd_ne (ne_of_none e n)]; exact e, fun _ _ h => .inl h⟩⟩
  · rw [upd_ne (fun q => hp (by rw [← q]; exact ha))]; exact st.trk a ha
  · obtain ⟨a, h1, h2⟩ := st.at_ m u e
    have ne : a ≠ p := fun q => hp (q ▸ List.mem_of_getElem? h1)
    exact ⟨a, h1, h2.mono (Sub.refl _) (Pre.refl _) id (.inr (upd_ne ne))⟩

theorem MOk.ltail {a : Addr} {o : MO} {t : List Addr} (x : MOk K mg F ρ H a o) : MOk K mg F (ρ ++ t) H a o := x.mono (Sub.refl _) ⟨t, rfl⟩ id (.inr rfl)

/-- a new thing that may change -/
theorem StOk.new (st : StOk K mg F ρ M H) {p : Addr} {ho : HO} {o : MO} (n : H p = none) (z : MOk K mg F (ρ ++ [p]) (upd H p ho) p o) : StOk K mg F (ρ ++ [p]) (M ++ [o]) (upd H p ho) ∧ Grow F ρ H F (ρ ++ [p]) (upd H p ho) := by
  obtain ⟨st1, gr⟩ := st.other (o := ho) n
  have hp := st.notin n
  refine ⟨⟨st1.sub, st.szL, st.szT, by simp [st.len], ?_, fun a ha => ?_, fun m u e => ?_⟩, ⟨Sub.refl _, ⟨[p], rfl⟩, fun a ha => ?_, gr.keep, fun _ _ h => .inl h⟩⟩
  · rw [List.nodup_append]
    exact ⟨st.nd, by simp, fun a ha b hb => by simp at hb; subst hb; exact fun q => hp (q ▸ ha)⟩
  · rcases List.mem_append.mp ha with ha | ha
    · exact st1.trk a ha
    · simp at ha; subst ha; rw [upd_same]; simp
  · by_cases hm : m < M.length
    · rw [List.getElem?_append_left hm] at e
      obtain ⟨a, h1, h2⟩ := st1.at_ m u e
      exact ⟨a, Pre.get ⟨[p], rfl⟩ h1, h2.ltail⟩
    · rw [List.getElem?_append_right (by omega)] at e
      have hm0 : m - M.length = 0 := by
        have := (List.getElem?_eq_some_iff.mp e).1
        simp at this; omega
      rw [hm0] at e
      simp at e; subst e
      refine ⟨p, ?_, z⟩
      rw [List.getElem?_append_right (by rw [st.len]; omega), show m - ρ.length = 0 by rw [st.len]; omega]
      rfl
  · rcases List.mem_append.mp ha with ha | ha
    · exact .inl ha
    · simp at ha; subst ha; exact .inr n

theorem nd_at {l : List Addr} (h : l.Nodup) {i j : Nat} {a : Addr} (x : l[i]? = some a) (y : l[j]? = some a) : i = j := by
  obtain ⟨h1, e1⟩ := List.getElem?_eq_some_iff.mp x
  obtain ⟨h2, e2⟩ := List.getElem?_eq_some_iff.mp y
  exact (List.getElem_inj h).mp (e1.trans e2.symm)

/-- a thing that may change is changed -/
theorem StOk.write (st : StOk K mg F ρ M H) {n : Nat} {a : Addr} {ho : HO} {o' : MO} (ha : ρ[n]? = some a) (hn : F a = none) (z : MOk K mg F ρ (upd H a ho) a o') : StOk K mg F ρ (M.set n o') (upd H a ho) ∧ Grow F ρ H F ρ (upd H a ho) := by
  have hs : Sub F (upd H a ho) := fun b u e => by rw [upd_ne (ne_of_none e hn)]; exact st.sub b u e
  refine ⟨⟨hs, st.szL, st.szT, by simp [st.len], st.nd, fun b hb => ?_, fun m u e => ?_⟩, ⟨Sub.refl _, Pre.refl _, fun _ h => .inl h, fun b u e hb => ?_, fun _ _ h => .inl h⟩⟩
  · by_cases q : b = a
    · subst q; rw [upd_same]; simp
    · rw [upd_ne q]; exact st.trk b hb
  · by_cases q : n = m
    · subst q
      have hl : n < M.length := by
        have := (List.getElem?_eq_some_iff.mp e).1
        simpa using this
      rw [List.getElem?_set_self hl] at e
      cases e
      exact ⟨a, ha, z⟩
    · rw [List.getElem?_set_ne q] at e
      obtain ⟨b, h1, h2⟩ := st.at_ m u e
      have ne : b ≠ a := fun z => q (nd_at st.nd ha (z ▸ h1))
      exact ⟨b, h1, h2.mono (Sub.refl _) (Pre.refl _) id (.inr (upd_ne ne))⟩
  · rw [upd_ne (fun q => hb (by rw [q]; exact List.mem_of_getElem? ha))]; exact e
end
end DL

namespace DL
open PySem PySem.Spec PyProof.Rows L2

/-! ### what a result asks -/
def RepX (K : PySem.W.Frag) (mg : Str → Option Value) (F : Hp) (ρ : List Addr) (H : Hp) (x : Xn) (c : Value) (od : Option Addr) : Prop :=
  ∃ C, mg x.cls = some (.ref C) ∧ c = .ref C ∧ x.ns.length = x.ds.length ∧ ((x.ns = [] ∧ od = none) ∨ ∃ d vs, od = some d ∧ H d = some (.xd (x.ns.zip vs)) ∧ Reps K mg F ρ x.ds vs)

def AftK {α β : Type} (K : PySem.W.Frag) (mg : Str → Option Value) (R : Hp → List Addr → α → β → Prop) (W : XK) (r : Res α) (F : Hp) (ρ : List Addr) (H : Hp) (C : Hp → List Addr → Sto → Hp → α → β → Prop) : Prop :=
  match r with
  | .ok a M' => ∀ F' ρ' H' b, Grow F ρ H F' ρ' H' → StOk K mg F' ρ' M' H' → R F' ρ' a b → C F' ρ' M' H' a b
  | .exc x M' => ∀ F' ρ' H' c od, Grow F ρ H F' ρ' H' → StOk K mg F' ρ' M' H' → RepX K mg F' ρ' H' x c od → W c od H'
  | .stuck => False

section
variable {α β γ δ : Type} {K : PySem.W.Frag} {mg : Str → Option Value} {R : Hp → List Addr → α → β → Prop} {R' : Hp → List Addr → γ → δ → Prop} {W : XK} {F F1 : Hp} {ρ ρ1 : List Addr} {H H1 : Hp} {r : Res α}
theorem AftK.grow {C : Hp → List Addr → Sto → Hp → α → β → Prop} (h : AftK K mg R W r F ρ H C) (g : Grow F ρ H F1 ρ1 H1) : AftK K mg R W r F1 ρ1 H1 C := by
  cases r with
  | ok a M => exact fun F' ρ' H' b g' st rr => h F' ρ' H' b (g.trans g') st rr
  | exc x M => exact fun F' ρ' H' c od g' st rr => h F' ρ' H' c od (g.trans g') st rr
  | stuck => exact h
theorem AftK.bind {f : α → Sto → Res γ} {C : Hp → List Addr → Sto → Hp → γ → δ → Prop} (h : AftK K mg R' W (r.bind f) F ρ H C) :
    AftK K mg R W r F ρ H (fun F1 ρ1 M1 H1 a _ => AftK K mg R' W (f a M1) F1 ρ1 H1 C) := by
  cases r with
  | ok a M => exact fun F' ρ' H' b g' st rr => AftK.grow h g'
  | exc x M => exact h
  | stuck => exact h
theorem AftK.imp {C C' : Hp → List Addr → Sto → Hp → α → β → Prop} (h : AftK K mg R W r F ρ H C)
    (k : ∀ F1 ρ1 M1 H1 a b, Grow F ρ H F1 ρ1 H1 → StOk K mg F1 ρ1 M1 H1 → R F1 ρ1 a b → C F1 ρ1 M1 H1 a b → C' F1 ρ1 M1 H1 a b) : AftK K mg R W r F ρ H C' := by
  cases r with
  | ok a M => exact fun F' ρ' H' b g' st rr => k F' ρ' M H' a b g' st rr (h F' ρ' H' b g' st rr)
  | exc x M => exact h
  | stuck => exact h
theorem AftK.ok {C : Hp → List Addr → Sto → Hp → α → β → Prop} {a : α} {M : Sto} {b : β} (h : AftK K mg R W (.ok a M) F ρ H C) (st : StOk K mg F ρ M H) (r : R F ρ a b) : C F ρ M H a b := h F ρ H b (Grow.refl _ _ _) st r
end

/-! ### readings -/
section
variable (K : PySem.W.Frag) (mg : Str → Option Value) (W : WX)
def tD (m : ME) : TE := fun σ H Q => ∃ F ρ Γ M, GOk K mg F ρ Γ σ ∧ StOk K mg F ρ M H ∧ AftK K mg (Rep K mg) (WE W σ) (m Γ M) F ρ H (fun _ _ _ H' _ v => Q v H')
def tDs (m : MA) : TA := fun σ H Q => ∃ F ρ Γ M, GOk K mg F ρ Γ σ ∧ StOk K mg F ρ M H ∧ AftK K mg (Reps K mg) (WE W σ) (m Γ M) F ρ H (fun _ _ _ H' _ v => Q v H')
def tDt (m : MT) : TT := fun σ H Q => ∃ F ρ Γ M, GOk K mg F ρ Γ σ ∧ StOk K mg F ρ M H ∧ AftK (β := Unit) K mg (fun _ _ _ _ => True) (WE W σ) (m Γ M) F ρ H (fun _ _ _ H' b _ => Q b H')
end
abbrev SE (X : Cx) (W : WX) (m : ME) (e : Expr) : Prop := PE X e (tD X.K X.mg W m)
abbrev SA (X : Cx) (W : WX) (m : MA) (es : List Expr) : Prop := PA X es (tDs X.K X.mg W m)
abbrev ST (X : Cx) (W : WX) (m : MT) (e : Expr) : Prop := PT X e (tDt X.K X.mg W m)

theorem _root_.L2.PE.imp {X : Cx} {e : Expr} {t t' : TE} (h : PE X e t) (k : ∀ σ H Q, t' σ H Q → t σ H Q) : PE X e t' := ⟨fun pins s σ H Q I q => h.run pins s σ H Q I (k _ _ _ q)⟩
theorem _root_.L2.PT.imp {X : Cx} {e : Expr} {t t' : TT} (h : PT X e t) (k : ∀ σ H Q, t' σ H Q → t σ H Q) : PT X e t' := ⟨fun pins s σ H Q I q => h.run pins s σ H Q I (k _ _ _ q)⟩
theorem _root_.L2.PW.imp {X : Cx} {e : Expr} {t t' : TT} (h : PW X e t) (k : ∀ σ H Q, t' σ H Q → t σ H Q) : PW X e t' := ⟨fun wh pins s σ H Q I q => h.run wh pins s σ H Q I (k _ _ _ q)⟩
theorem _root_.L2.PA.imp {X : Cx} {e : List Expr} {t t' : TA} (h : PA X e t) (k : ∀ σ H Q, t' σ H Q → t σ H Q) : PA X e t' := ⟨fun pos pins s σ H Q I q => h.run pos pins s σ H Q I (k _ _ _ q)⟩

section
variable {X : Cx} {W : WX} {a b c : Expr} {ma mb mc : ME} {pos : Pos}

/-! ### names, constants -/
def mVar (i : Nat) : ME := fun Γ M => match Γ[i]? with
  | some (some d) => .ok d M
  | _ => .stuck
theorem se_var {i : Nat} {e : Expr} (h : PE X e (tVar i)) : SE X W (mVar i) e := h.imp fun σ H Q ⟨F, ρ, Γ, M, g, st, q⟩ => by
  unfold mVar at q
  split at q
  · rename_i d e
    obtain ⟨v, h1, h2⟩ := g.2 i d e
    exact ⟨v, h1, q.ok st h2⟩
  · exact q.elim
def mC (d : D) : ME := fun _ M => .ok d M
theorem se_c {e : Expr} {v : V} {d : D} (h : PE X e (tC v)) (r : ∀ F ρ, Rep X.K X.mg F ρ d v) : SE X W (mC d) e := h.imp fun σ H Q ⟨F, ρ, Γ, M, g, st, q⟩ => q.ok st (r _ _)
theorem se_int {i j} : SE X W (mC (.int i)) (.Constant (.int i) j pos) := se_c pe_int fun _ _ => by unfold Rep; rfl
theorem se_bl {b j} : SE X W (mC (.bl b)) (.Constant (.bool b) j pos) := se_c pe_bl fun _ _ => by unfold Rep; rfl
theorem se_non {j} : SE X W (mC .non) (.Constant .none j pos) := se_c pe_non fun _ _ => by unfold Rep; rfl
theorem se_str {x j} : SE X W (mC (.str x)) (.Constant (.str x) j pos) := se_c pe_str fun _ _ => by unfold Rep; rfl

/-! ### reading data -/
def lstOf (M : Sto) : D → Option (List D)
  | .lst ds => some ds
  | .ref n => match M[n]? with
    | some (.lst ds) => some ds
    | _ => none
  | _ => none
def seqOf (M : Sto) : D → Option (List D)
  | .tup ds => some ds
  | .scr ds => some ds
  | d => lstOf M d
def isTup : D → Bool
  | .tup _ => true
  | _ => false
end

section
variable {K : PySem.W.Frag} {mg : Str → Option Value} {F : Hp} {ρ : List Addr} {M : Sto} {H : Hp} {d e : D} {v u : V} {ds : List D}
theorem Rep.int {i : Int} (h : Rep K mg F ρ (.int i) v) : v = .int i := by unfold Rep at h; exact h
theorem Rep.bl {i : Bool} (h : Rep K mg F ρ (.bl i) v) : v = .bl i := by unfold Rep at h; exact h
theorem Rep.str {i : Str} (h : Rep K mg F ρ (.str i) v) : v = .str i := by unfold Rep at h; exact h
theorem Rep.non (h : Rep K mg F ρ .non v) : v = .non := by unfold Rep at h; exact h
theorem Rep.tupF (h : Rep K mg F ρ (.tup ds) v) : ∃ a vs, v = .ref a ∧ F a = some (.tup vs) ∧ Reps K mg F ρ ds vs := by unfold Rep at h; exact h
theorem Rep.tup (h : Rep K mg F ρ (.tup ds) v) : ∃ a vs, v = .ref a ∧ SqT K F a vs ∧ Reps K mg F ρ ds vs := let ⟨a, vs, e, q, r⟩ := h.tupF; ⟨a, vs, e, SqT.of q, r⟩
theorem Rep.lst (h : Rep K mg F ρ (.lst ds) v) : ∃ a vs, v = .ref a ∧ F a = some (.lst vs) ∧ Reps K mg F ρ ds vs := by unfold Rep at h; exact h
theorem Rep.scr (h : Rep K mg F ρ (.scr ds) v) : ∃ a vs, v = .ref a ∧ SqL K F a vs ∧ Reps K mg F ρ ds vs := by unfold Rep at h; exact h
theorem Rep.ref {n : Nat} (h : Rep K mg F ρ (.ref n) v) : ∃ a, v = .ref a ∧ ρ[n]? = some a := by unfold Rep at h; exact h
theorem Rep.obj {C : Str} {ns : List Str} (h : Rep K mg F ρ (.obj C ns ds) v) : ∃ a Ca dx vs, v = .ref a ∧ mg C = some (.ref Ca) ∧ F a = some (.ins Ca dx (ns.zip vs)) ∧ ns.length = ds.length ∧ Reps K mg F ρ ds vs := by unfold Rep at h; exact h
theorem rep_int (i : Int) : Rep K mg F ρ (.int i) (.int i) := by unfold Rep; rfl
theorem rep_bl (i : Bool) : Rep K mg F ρ (.bl i) (.bl i) := by unfold Rep; rfl
theorem rep_str (i : Str) : Rep K mg F ρ (.str i) (.str i) := by unfold Rep; rfl
theorem rep_non : Rep K mg F ρ .non .non := by unfold Rep; rfl
theorem rep_tup {a : Addr} {vs : List V} (h : F a = some (.tup vs)) (r : Reps K mg F ρ ds vs) : Rep K mg F ρ (.tup ds) (.ref a) := by unfold Rep; exact ⟨a, vs, rfl, h, r⟩
theorem rep_lst {a : Addr} {vs : List V} (h : F a = some (.lst vs)) (r : Reps K mg F ρ ds vs) : Rep K mg F ρ (.lst ds) (.ref a) := by unfold Rep; exact ⟨a, vs, rfl, h, r⟩
theorem rep_scr {a : Addr} {vs : List V} (h : SqL K F a vs) (r : Reps K mg F ρ ds vs) : Rep K mg F ρ (.scr ds) (.ref a) := by unfold Rep; exact ⟨a, vs, rfl, h, r⟩
theorem rep_ref {a : Addr} {n : Nat} (h : ρ[n]? = some a) : Rep K mg F ρ (.ref n) (.ref a) := by unfold Rep; exact ⟨a, rfl, h⟩
theorem rep_obj {C : Str} {ns : List Str} {a Ca dx : Addr} {vs : List V} (m : mg C = some (.ref Ca)) (h : F a = some (.ins Ca dx (ns.zip vs))) (l : ns.length = ds.length) (r : Reps K mg F ρ ds vs) : Rep K mg F ρ (.obj C ns ds) (.ref a) := by unfold Rep; exact ⟨a, Ca, dx, vs, rfl, m, h, l, r⟩

/-- a list that the program made -/
theorem lstOf_at (st : StOk K mg F ρ M H) (r : Rep K mg F ρ d v) (h : lstOf M d = some ds) : ∃ a vs, v = .ref a ∧ H a = some (.lst vs) ∧ Reps K mg F ρ ds vs ∧ vs.length ≤ sizeLine := by
  cases d with
  | lst xs =>
    obtain ⟨a, vs, e, q, r⟩ := r.lst
    simp [lstOf] at h; subst h
    exact ⟨a, vs, e, st.sub _ _ q, r, st.szL a vs (.inl (.inl q))⟩
  | ref n =>
    obtain ⟨a, e, q⟩ := r.ref
    simp only [lstOf] at h
    split at h
    · rename_i xs hx
      simp at h; subst h
      obtain ⟨a', h1, h2⟩ := st.at_ n _ hx
      rw [q] at h1; cases h1
      obtain ⟨_, vs, h3, h4, h5⟩ := h2
      exact ⟨a, vs, e, h3, h4, h5⟩
    · cases h
  | _ => cases h
theorem sq_of_sub (s : Sub F H) {a : Addr} {vs : List V} (h : SqL K F a vs ∨ SqT K F a vs) : SqL K H a vs ∨ SqT K H a vs := by
  rcases h with h | h
  · exact .inl (s.sqL h)
  · exact .inr (s.sqT h)
theorem seqOf_at (st : StOk K mg F ρ M H) (r : Rep K mg F ρ d v) (h : seqOf M d = some ds) : ∃ a vs, v = .ref a ∧ Reps K mg F ρ ds vs ∧ vs.length ≤ sizeLine ∧ ((isTup d = true ∧ SqT K H a vs) ∨ (isTup d = false ∧ SqL K H a vs)) := by
  cases d with
  | tup xs =>
    obtain ⟨a, vs, e, q, r⟩ := r.tup
    simp [seqOf] at h; subst h
    exact ⟨a, vs, e, r, st.szT a vs q, .inl ⟨rfl, st.sub.sqT q⟩⟩
  | scr xs =>
    obtain ⟨a, vs, e, q, r⟩ := r.scr
    simp [seqOf] at h; subst h
    exact ⟨a, vs, e, r, st.szL a vs q, .inr ⟨rfl, st.sub.sqL q⟩⟩
  | lst xs =>
    obtain ⟨a, vs, e, q, r, z⟩ := lstOf_at st r (by simpa [seqOf] using h)
    exact ⟨a, vs, e, r, z, .inr ⟨rfl, SqL.of q⟩⟩
  | ref n =>
    obtain ⟨a, vs, e, q, r, z⟩ := lstOf_at st r (by simpa [seqOf] using h)
    exact ⟨a, vs, e, r, z, .inr ⟨rfl, SqL.of q⟩⟩
  | _ => cases h
end

/-! ### operators -/
def OpS (K : PySem.W.Frag) (mg : Str → Option Value) (r : R2) (f : D → D → Sto → Res D) : Prop :=
  ∀ F ρ M H d e v u (W : XK) Q, StOk K mg F ρ M H → Rep K mg F ρ d v → Rep K mg F ρ e u → AftK K mg (Rep K mg) W (f d e M) F ρ H (fun _ _ _ H' _ v => Q v H') → r v u H Q
def OpB (K : PySem.W.Frag) (mg : Str → Option Value) (r : R2) (f : D → D → Sto → Option Bool) : Prop :=
  ∀ F ρ M H d e v u b Q, StOk K mg F ρ M H → Rep K mg F ρ d v → Rep K mg F ρ e u → f d e M = some b → Q (.bl b) H → r v u H Q
def UnS (K : PySem.W.Frag) (mg : Str → Option Value) (r : V → Hp → VK → Prop) (f : D → Sto → Res D) : Prop :=
  ∀ F ρ M H d v (W : XK) Q, StOk K mg F ρ M H → Rep K mg F ρ d v → AftK K mg (Rep K mg) W (f d M) F ρ H (fun _ _ _ H' _ v => Q v H') → r v H Q
def CallS (K : PySem.W.Frag) (mg : Str → Option Value) (r : List V → Hp → VK → Prop) (f : List D → Sto → Res D) : Prop :=
  ∀ F ρ M H ds vs (W : XK) Q, StOk K mg F ρ M H → Reps K mg F ρ ds vs → AftK K mg (Rep K mg) W (f ds M) F ρ H (fun _ _ _ H' _ v => Q v H') → r vs H Q

def mBin (f : D → D → Sto → Res D) (ma mb : ME) : ME := fun Γ M => (ma Γ M).bind fun d M1 => (mb Γ M1).bind fun e M2 => f d e M2
def mUn (f : D → Sto → Res D) (ma : ME) : ME := fun Γ M => (ma Γ M).bind fun d M1 => f d M1
/-- a comparison's answer -/
def liftB (o : Option Bool) (M : Sto) : Res Bool := match o with
  | some b => .ok b M
  | none => .stuck
def mCmpT (f : D → D → Sto → Option Bool) (ma mb : ME) : MT := fun Γ M => (ma Γ M).bind fun d M1 => (mb Γ M1).bind fun e M2 => liftB (f d e M2) M2
def mOfT (m : MT) : ME := fun Γ M => (m Γ M).bind fun b M1 => .ok (.bl b) M1
def mCmp (f : D → D → Sto → Option Bool) (ma mb : ME) : ME := mOfT (mCmpT f ma mb)

section
variable {X : Cx} {W : WX} {a b c : Expr} {ma mb mc : ME} {pos : Pos}
theorem se_bin {op : Operator} {r : R2} {f : D → D → Sto → Res D} (ho : OpR X (binaryOp op) r) (hs : OpS X.K X.mg r f) (ha : SE X W ma a) (hb : SE X W mb b) : SE X W (mBin f ma mb) (.BinOp a op b pos) :=
  (pe_op ho ha hb).imp fun σ H Q ⟨F, ρ, Γ, M, g, st, h⟩ => ⟨F, ρ, Γ, M, g, st, h.bind.imp fun F1 ρ1 M1 H1 d v gr st1 rv h1 => ⟨F1, ρ1, Γ, M1, g.grow gr, st1,
    h1.bind.imp fun F2 ρ2 M2 H2 e u gr2 st2 ru h2 => hs _ _ _ _ _ _ _ _ _ _ st2 (rv.mono gr2.f gr2.r) ru h2⟩⟩
theorem se_un {op : UnaryOp} {r : V → Hp → VK → Prop} {f : D → Sto → Res D} (ho : UnR X (unaryOp op) r) (hs : UnS X.K X.mg r f) (ha : SE X W ma a) : SE X W (mUn f ma) (.UnaryOp op a pos) :=
  (pe_un ho ha).imp fun σ H Q ⟨F, ρ, Γ, M, g, st, h⟩ => ⟨F, ρ, Γ, M, g, st, h.bind.imp fun F1 ρ1 M1 H1 d v gr st1 rv h1 => hs _ _ _ _ _ _ _ _ st1 rv h1⟩
theorem liftB_elim {K : PySem.W.Frag} {mg : Str → Option Value} {β : Type} {o : Option Bool} {M : Sto} {R : Hp → List Addr → Bool → β → Prop} {W : XK} {F : Hp} {ρ : List Addr} {H : Hp} {C : Hp → List Addr → Sto → Hp → Bool → β → Prop}
    (h : AftK K mg R W (liftB o M) F ρ H C) : ∃ b, o = some b ∧ AftK K mg R W (.ok b M) F ρ H C := by
  unfold liftB at h
  split at h
  · exact ⟨_, rfl, h⟩
  · exact h.elim
theorem se_cmp {op : CmpOp} {r : R2} {f : D → D → Sto → Option Bool} (ho : OpR X (compareOp op) r) (hs : OpB X.K X.mg r f) (ha : SE X W ma a) (hb : SE X W mb b) (hm : behindInMarks op b = false) : SE X W (mCmp f ma mb) (.Compare a [op] [b] pos) :=
  (pe_cmpR ho ha hb hm).imp fun σ H Q ⟨F, ρ, Γ, M, g, st, h⟩ => by
    unfold mCmp mOfT mCmpT at h
    cases hx : ma Γ M with
    | stuck => rw [hx] at h; exact h.elim
    | exc x M1 => rw [hx] at h; exact ⟨F, ρ, Γ, M, g, st, by rw [hx]; exact h⟩
    | ok d M1 =>
      rw [hx] at h
      refine ⟨F, ρ, Γ, M, g, st, ?_⟩
      rw [hx]
      intro F1 ρ1 H1 v gr st1 rv
      have h := AftK.grow h gr
      refine ⟨F1, ρ1, Γ, M1, g.grow gr, st1, ?_⟩
      simp only [Res.bind_ok] at h
      cases hy : mb Γ M1 with
      | stuck => rw [hy] at h; exact h.elim
      | exc x M2 => rw [hy] at h; exact h
      | ok e M2 =>
        rw [hy] at h
        intro F2 ρ2 H2 u gr2 st2 ru
        have h := AftK.grow h gr2
        simp only [Res.bind_ok] at h
        obtain ⟨bb, hf, h⟩ := liftB_elim (AftK.bind (R := fun _ _ _ (_ : Unit) => True) h)
        have h := AftK.ok (b := ()) h st2 trivial
        exact hs _ _ _ _ _ _ _ _ _ _ st2 (rv.mono gr2.f gr2.r) ru hf (AftK.ok h st2 (rep_bl _))
theorem st_cmp {op : CmpOp} {r : R2} {f : D → D → Sto → Option Bool} (ho : OpR X (compareOp op) r) (hs : OpB X.K X.mg r f) (ha : SE X W ma a) (hb : SE X W mb b) (hm : behindInMarks op b = false) : ST X W (mCmpT f ma mb) (.Compare a [op] [b] pos) :=
  (pt_cmpR ho ha hb hm).imp fun σ H Q ⟨F, ρ, Γ, M, g, st, h⟩ => ⟨F, ρ, Γ, M, g, st, h.bind.imp fun F1 ρ1 M1 H1 d v gr st1 rv h1 => ⟨F1, ρ1, Γ, M1, g.grow gr, st1,
    h1.bind.imp fun F2 ρ2 M2 H2 e u gr2 st2 ru h2 => by
      obtain ⟨bb, hf, h⟩ := liftB_elim h2
      exact hs _ _ _ _ _ _ _ _ _ _ st2 (rv.mono gr2.f gr2.r) ru hf ⟨bb, rfl, AftK.ok (b := ()) h st2 trivial⟩⟩⟩

/-! ### truth, and, or, not, if -/
def truth (M : Sto) : D → Option Bool
  | .non => some false
  | .bl b => some b
  | .int i => some (i != 0)
  | .str x => if x.length ≤ 16777216 then some ((x.length : Int) != 0) else none
  | d => (seqOf M d).map fun ds => !ds.isEmpty
def mTru (m : ME) : MT := fun Γ M => (m Γ M).bind fun d M1 => liftB (truth M1 d) M1
theorem truV_of {K : PySem.W.Frag} {mg : Str → Option Value} {F : Hp} {ρ : List Addr} {M : Sto} {H : Hp} {d : D} {v : V} {k : Bool} (st : StOk K mg F ρ M H) (r : Rep K mg F ρ d v) (h : truth M d = some k) : TruV K v H k := by
  have sq : ∀ ds, seqOf M d = some ds → k = (!ds.isEmpty) → TruV K v H k := fun ds hs hk => by
    obtain ⟨a, vs, rfl, rr, _, q⟩ := seqOf_at st r hs
    have e : vs.isEmpty = ds.isEmpty := by
      have := rr.len
      cases vs <;> cases ds <;> simp at this ⊢
    rcases q with ⟨_, q⟩ | ⟨_, q⟩
    · exact .inr (.inl ⟨vs, q, by rw [hk, e]⟩)
    · exact .inl ⟨vs, q, by rw [hk, e]⟩
  cases d with
  | non => rw [r.non]; simp [truth] at h; exact h.symm ▸ rfl
  | bl b => rw [r.bl]; simp [truth] at h; exact h.symm ▸ rfl
  | int i => rw [r.int]; simp [truth] at h; exact h.symm ▸ rfl
  | str x =>
    rw [r.str]
    simp only [truth] at h
    split at h
    · rename_i hz
      exact ⟨by rw [sizeLine_eq]; exact hz, (Option.some.inj h).symm⟩
    · cases h
  | _ =>
    simp only [truth, Option.map_eq_some_iff] at h
    obtain ⟨ds, h1, h2⟩ := h
    exact sq ds h1 h2.symm
theorem st_tru (ha : SE X W ma a) (he : ∀ whole, isTrue a X.env whole = (do let v ← whole; standAt a.pos; holding [v] (truthy v)) := by intro _; rfl) : ST X W (mTru ma) a :=
  (pt_truth ha he).imp fun σ H Q ⟨F, ρ, Γ, M, g, st, h⟩ => ⟨F, ρ, Γ, M, g, st, h.bind.imp fun F1 ρ1 M1 H1 d v gr st1 rv h1 => by
    obtain ⟨k, hk, h⟩ := liftB_elim h1
    exact ⟨k, truV_of st1 rv hk, AftK.ok (b := ()) h st1 trivial⟩⟩
def mAndT (t u : MT) : MT := fun Γ M => (t Γ M).bind fun b M1 => if b = true then u Γ M1 else .ok false M1
def mOrT (t u : MT) : MT := fun Γ M => (t Γ M).bind fun b M1 => if b = true then .ok true M1 else u Γ M1
def mNotT (t : MT) : MT := fun Γ M => (t Γ M).bind fun b M1 => .ok (!b) M1
abbrev SW (X : Cx) (W : WX) (m : MT) (e : Expr) : Prop := PW X e (tDt X.K X.mg W m)
variable {ta tb : MT} {rest : List Expr}
theorem sw_and1 (h : ST X W ta a) : SW X W ta (.BoolOp .And [a] pos) := pw_and1 h
theorem sw_or1 (h : ST X W ta a) : SW X W ta (.BoolOp .Or [a] pos) := pw_or1 h
theorem sw_and (ha : ST X W ta a) (hb : SW X W tb (.BoolOp .And (b :: rest) pos)) : SW X W (mAndT ta tb) (.BoolOp .And (a :: b :: rest) pos) :=
  (pw_and ha hb).imp fun σ H Q ⟨F, ρ, Γ, M, g, st, h⟩ => ⟨F, ρ, Γ, M, g, st, h.bind.imp fun F1 ρ1 M1 H1 d v gr st1 rv h1 => by
    cases d with
    | true => exact ⟨F1, ρ1, Γ, M1, g.grow gr, st1, h1⟩
    | false => exact AftK.ok (b := ()) h1 st1 trivial⟩
theorem sw_or (ha : ST X W ta a) (hb : SW X W tb (.BoolOp .Or (b :: rest) pos)) : SW X W (mOrT ta tb) (.BoolOp .Or (a :: b :: rest) pos) :=
  (pw_or ha hb).imp fun σ H Q ⟨F, ρ, Γ, M, g, st, h⟩ => ⟨F, ρ, Γ, M, g, st, h.bind.imp fun F1 ρ1 M1 H1 d v gr st1 rv h1 => by
    cases d with
    | true => exact AftK.ok (b := ()) h1 st1 trivial
    | false => exact ⟨F1, ρ1, Γ, M1, g.grow gr, st1, h1⟩⟩
theorem st_w (h : SW X W ta a) : ST X W ta a := h.pt
theorem st_not (h : ST X W ta a) : ST X W (mNotT ta) (.UnaryOp .Not a pos) :=
  (pt_not h).imp fun σ H Q ⟨F, ρ, Γ, M, g, st, h⟩ => ⟨F, ρ, Γ, M, g, st, h.bind.imp fun F1 ρ1 M1 H1 d v gr st1 rv h1 => AftK.ok (b := ()) h1 st1 trivial⟩
/-- .. as values: bools -/
def asB : D → Option Bool
  | .bl b => some b
  | _ => none
def mAndV (t u : ME) : ME := fun Γ M => (t Γ M).bind fun d M1 => match asB d with
  | some true => u Γ M1
  | some false => .ok (.bl false) M1
  | none => .stuck
def mOrV (t u : ME) : ME := fun Γ M => (t Γ M).bind fun d M1 => match asB d with
  | some true => .ok (.bl true) M1
  | some false => u Γ M1
  | none => .stuck
def mNotV (t : ME) : ME := fun Γ M => (t Γ M).bind fun d M1 => match asB d with
  | some b => .ok (.bl (!b)) M1
  | none => .stuck
theorem asB_rep {K : PySem.W.Frag} {mg : Str → Option Value} {F : Hp} {ρ : List Addr} {d : D} {v : V} {b : Bool} (r : Rep K mg F ρ d v) (h : asB d = some b) : v = .bl b := by
  cases d <;> first
    | (simp [asB] at h; done)
    | (simp only [asB, Option.some.injEq] at h; subst h; exact r.bl)
theorem se_and (ha : SE X W ma a) (hb : SE X W mb (.BoolOp .And (b :: rest) pos)) : SE X W (mAndV ma mb) (.BoolOp .And (a :: b :: rest) pos) :=
  (pe_and ha hb).imp fun σ H Q ⟨F, ρ, Γ, M, g, st, h⟩ => ⟨F, ρ, Γ, M, g, st, h.bind.imp fun F1 ρ1 M1 H1 d v gr st1 rv h1 => by
    split at h1
    · rename_i e
      exact ⟨true, asB_rep rv e, ⟨F1, ρ1, Γ, M1, g.grow gr, st1, h1⟩⟩
    · rename_i e
      exact ⟨false, asB_rep rv e, AftK.ok h1 st1 (rep_bl _)⟩
    · exact h1.elim⟩
theorem se_or (ha : SE X W ma a) (hb : SE X W mb (.BoolOp .Or (b :: rest) pos)) : SE X W (mOrV ma mb) (.BoolOp .Or (a :: b :: rest) pos) :=
  (pe_or ha hb).imp fun σ H Q ⟨F, ρ, Γ, M, g, st, h⟩ => ⟨F, ρ, Γ, M, g, st, h.bind.imp fun F1 ρ1 M1 H1 d v gr st1 rv h1 => by
    split at h1
    · rename_i e
      exact ⟨true, asB_rep rv e, AftK.ok h1 st1 (rep_bl _)⟩
    · rename_i e
      exact ⟨false, asB_rep rv e, ⟨F1, ρ1, Γ, M1, g.grow gr, st1, h1⟩⟩
    · exact h1.elim⟩
theorem se_one {op} (ha : SE X W ma a) : SE X W ma (.BoolOp op [a] pos) := pe_one ha
theorem se_not (ha : SE X W ma a) : SE X W (mNotV ma) (.UnaryOp .Not a pos) :=
  (pe_not ha).imp fun σ H Q ⟨F, ρ, Γ, M, g, st, h⟩ => ⟨F, ρ, Γ, M, g, st, h.bind.imp fun F1 ρ1 M1 H1 d v gr st1 rv h1 => by
    split at h1
    · rename_i e
      exact ⟨_, asB_rep rv e, AftK.ok h1 st1 (rep_bl _)⟩
    · exact h1.elim⟩
def mIf (t : MT) (u w : ME) : ME := fun Γ M => (t Γ M).bind fun b M1 => if b = true then u Γ M1 else w Γ M1
theorem se_if (ht : ST X W ta c) (ha : SE X W ma a) (hb : SE X W mb b) : SE X W (mIf ta ma mb) (.IfExp c a b pos) :=
  (pe_ifExp ht ha hb).imp fun σ H Q ⟨F, ρ, Γ, M, g, st, h⟩ => ⟨F, ρ, Γ, M, g, st, h.bind.imp fun F1 ρ1 M1 H1 d v gr st1 rv h1 => by
    cases d with
    | true => exact ⟨F1, ρ1, Γ, M1, g.grow gr, st1, h1⟩
    | false => exact ⟨F1, ρ1, Γ, M1, g.grow gr, st1, h1⟩⟩

/-! ### lists of arguments, displays -/
def mNil : MA := fun _ M => .ok [] M
def mCons (m : ME) (r : MA) : MA := fun Γ M => (m Γ M).bind fun d M1 => (r Γ M1).bind fun ds M2 => .ok (d :: ds) M2
theorem sa_nil : SA X W mNil [] := pa_nil.imp fun σ H Q ⟨F, ρ, Γ, M, g, st, h⟩ => AftK.ok h st Reps.nil
theorem sa_cons {es : List Expr} {mr : MA} (ha : SE X W ma a) (hr : SA X W mr es) (hs : starEach (a :: es) X.env = (false, eval a X.env) :: starEach es X.env := by rfl) : SA X W (mCons ma mr) (a :: es) :=
  (pa_cons ha hr hs).imp fun σ H Q ⟨F, ρ, Γ, M, g, st, h⟩ => ⟨F, ρ, Γ, M, g, st, h.bind.imp fun F1 ρ1 M1 H1 d v gr st1 rv h1 => ⟨F1, ρ1, Γ, M1, g.grow gr, st1,
    h1.bind.imp fun F2 ρ2 M2 H2 e u gr2 st2 ru h2 => AftK.ok h2 st2 (.cons (rv.mono gr2.f gr2.r) ru)⟩⟩
def mTup (m : MA) : ME := fun Γ M => (m Γ M).bind fun ds M1 => if ds.length ≤ 16777216 then .ok (.tup ds) M1 else .stuck
def mLst (m : MA) : ME := fun Γ M => (m Γ M).bind fun ds M1 => if ds.length ≤ 16777216 then .ok (.lst ds) M1 else .stuck
/-- a list that may be changed -/
def mLstM (m : MA) : ME := fun Γ M => (m Γ M).bind fun ds M1 => if ds.length ≤ 16777216 then .ok (.ref M1.length) (M1 ++ [.lst ds]) else .stuck
variable {es : List Expr} {ms : MA}
theorem se_tup {x1} (h : SA X W ms es) : SE X W (mTup ms) (.Tuple es x1 pos) :=
  (pe_tup h).imp fun σ H Q ⟨F, ρ, Γ, M, g, st, h⟩ => ⟨F, ρ, Γ, M, g, st, h.bind.imp fun F1 ρ1 M1 H1 ds vs gr st1 rv h1 => by
    split at h1
    · rename_i hz
      have z : vs.length ≤ sizeLine := by rw [sizeLine_eq, rv.len]; exact hz
      refine ⟨z, fun p n => ?_⟩
      obtain ⟨st2, gr2⟩ := st1.lay (o := .tup vs) n z
      exact h1 _ _ _ _ gr2 st2 (rep_tup upd_same (rv.mono gr2.f gr2.r))
    · exact h1.elim⟩
theorem se_lst (h : SA X W ms es) : SE X W (mLst ms) (.List es pos) :=
  (pe_lst h).imp fun σ H Q ⟨F, ρ, Γ, M, g, st, h⟩ => ⟨F, ρ, Γ, M, g, st, h.bind.imp fun F1 ρ1 M1 H1 ds vs gr st1 rv h1 => by
    split at h1
    · rename_i hz
      have z : vs.length ≤ sizeLine := by rw [sizeLine_eq, rv.len]; exact hz
      refine ⟨z, fun p n => ?_⟩
      obtain ⟨st2, gr2⟩ := st1.lay (o := .lst vs) n z
      exact h1 _ _ _ _ gr2 st2 (rep_lst upd_same (rv.mono gr2.f gr2.r))
    · exact h1.elim⟩
theorem new_lst {K : PySem.W.Frag} {mg : Str → Option Value} {F : Hp} {ρ : List Addr} {M : Sto} {H : Hp} {ds : List D} {vs : List V} {p : Addr} (st : StOk K mg F ρ M H) (n : H p = none) (r : Reps K mg F ρ ds vs) (z : vs.length ≤ sizeLine) :
    StOk K mg F (ρ ++ [p]) (M ++ [.lst ds]) (upd H p (.lst vs)) ∧ Grow F ρ H F (ρ ++ [p]) (upd H p (.lst vs)) ∧ Rep K mg F (ρ ++ [p]) (.ref M.length) (.ref p) := by
  obtain ⟨a, b⟩ := st.new (ho := .lst vs) (o := .lst ds) n ⟨st.fnone n, vs, upd_same, r.mono (Sub.refl _) ⟨[p], rfl⟩, z⟩
  refine ⟨a, b, rep_ref ?_⟩
  rw [← st.len, List.getElem?_append_right (Nat.le_refl _), Nat.sub_self]
  rfl
theorem se_lstM (h : SA X W ms es) : SE X W (mLstM ms) (.List es pos) :=
  (pe_lst h).imp fun σ H Q ⟨F, ρ, Γ, M, g, st, h⟩ => ⟨F, ρ, Γ, M, g, st, h.bind.imp fun F1 ρ1 M1 H1 ds vs gr st1 rv h1 => by
    split at h1
    · rename_i hz
      have z : vs.length ≤ sizeLine := by rw [sizeLine_eq, rv.len]; exact hz
      refine ⟨z, fun p n => ?_⟩
      obtain ⟨st2, gr2, r2⟩ := new_lst st1 n rv z
      exact h1 _ _ _ _ gr2 st2 r2
    · exact h1.elim⟩
end
end DL

namespace DL
open PySem PySem.Spec PyProof.Rows L2

def optR (o : Option D) (M : Sto) : Res D := match o with
  | some d => .ok d M
  | none => .stuck
theorem optR_elim {K : PySem.W.Frag} {mg : Str → Option Value} {β : Type} {o : Option D} {M : Sto} {R : Hp → List Addr → D → β → Prop} {W : XK} {F : Hp} {ρ : List Addr} {H : Hp} {C : Hp → List Addr → Sto → Hp → D → β → Prop}
    (h : AftK K mg R W (optR o M) F ρ H C) : ∃ b, o = some b ∧ AftK K mg R W (.ok b M) F ρ H C := by
  unfold optR at h
  split at h
  · exact ⟨_, rfl, h⟩
  · exact h.elim
theorem iff_elim {K : PySem.W.Frag} {mg : Str → Option Value} {α β : Type} {c : Prop} [Decidable c] {r : Res α} {R : Hp → List Addr → α → β → Prop} {W : XK} {F : Hp} {ρ : List Addr} {H : Hp} {C : Hp → List Addr → Sto → Hp → α → β → Prop}
    (h : AftK K mg R W (if c then r else .stuck) F ρ H C) : c ∧ AftK K mg R W r F ρ H C := by
  split at h
  · exact ⟨by assumption, h⟩
  · exact h.elim
@[simp] theorem optR_some (d : D) (M : Sto) : optR (some d) M = .ok d M := rfl
@[simp] theorem liftB_some (b : Bool) (M : Sto) : liftB (some b) M = .ok b M := rfl

/-! ### arithmetic -/
def rMulA (i j : Int) : Prop := CMul i j ∨ CMulW i j
/-- two factors that are not too great -/
def mulOk (i j : Int) : Bool := decide (-18446744073709551616 < i ∧ i < 18446744073709551616) || decide (-18446744073709551616 < j ∧ j < 18446744073709551616) || decide (i.natAbs.log2 + j.natAbs.log2 < 1000000)
def divOk (j : Int) : Bool := decide (0 < j ∧ j < 1073741824) || decide (0 < j ∧ j.natAbs.log2 < 9000)

section
variable {X : Cx}
def rAddA (K : PySem.W.Frag) : R2 := fun x y H Q => rI0 (fun i j => .int (i + j)) x y H Q ∨ rCat x y H Q ∨ rCatA K x y H Q ∨ (∃ i j, x = .str i ∧ y = .str j ∧ i.length + j.length ≤ sizeLine ∧ Q (.str (i ++ j)) H)
theorem op_addA : OpR X (binaryOp .Add) (rAddA X.K) := op_add.or (op_cat.or (op_catA.or op_add_str))
def fAdd (d e : D) (M : Sto) : Res D := match d, e with
  | .int i, .int j => .ok (.int (i + j)) M
  | .str x, .str y => if x.length + y.length ≤ 16777216 then .ok (.str (x ++ y)) M else .stuck
  | .tup xs, .tup ys => if xs.length + ys.length ≤ 16777216 then .ok (.tup (xs ++ ys)) M else .stuck
  | d, e => match lstOf M d, lstOf M e with
    | some xs, some ys => if xs.length + ys.length ≤ 16777216 then .ok (.lst (xs ++ ys)) M else .stuck
    | _, _ => .stuck
theorem fAdd_lst {K : PySem.W.Frag} {mg : Str → Option Value} {F : Hp} {ρ : List Addr} {M : Sto} {H : Hp} {d e : D} {v u : V} {xs ys : List D} {W : XK} {Q : VK} (st : StOk K mg F ρ M H) (r : Rep K mg F ρ d v) (r' : Rep K mg F ρ e u) (hx : lstOf M d = some xs) (hy : lstOf M e = some ys)
    (h : AftK K mg (Rep K mg) W (if xs.length + ys.length ≤ 16777216 then .ok (.lst (xs ++ ys)) M else .stuck) F ρ H (fun _ _ _ H' _ v => Q v H')) : rCat v u H Q := by
  obtain ⟨hz, h⟩ := iff_elim h
  obtain ⟨a, vs, rfl, ha, ra, _⟩ := lstOf_at st r hx
  obtain ⟨b, us, rfl, hb, rb, _⟩ := lstOf_at st r' hy
  have z : vs.length + us.length ≤ sizeLine := by rw [sizeLine_eq, ra.len, rb.len]; exact hz
  refine ⟨a, b, vs, us, rfl, rfl, ha, hb, z, fun p n => ?_⟩
  obtain ⟨st2, gr2⟩ := st.lay (o := .lst (vs ++ us)) n (by show (vs ++ us).length ≤ sizeLine; rw [List.length_append]; exact z)
  exact h _ _ _ _ gr2 st2 (rep_lst upd_same ((ra.append rb).mono gr2.f gr2.r))
theorem ops_add {K : PySem.W.Frag} {mg : Str → Option Value} : OpS K mg (rAddA K) fAdd := by
  intro F ρ M H d e v u W Q st r r' h
  have other : ∀ {xs ys : Option (List D)}, lstOf M d = xs → lstOf M e = ys → AftK K mg (Rep K mg) W (match xs, ys with
      | some xs, some ys => if xs.length + ys.length ≤ 16777216 then .ok (.lst (xs ++ ys)) M else .stuck
      | _, _ => .stuck) F ρ H (fun _ _ _ H' _ v => Q v H') → rAddA K v u H Q := fun {xs ys} hx hy h => by
    cases xs with
    | none => exact h.elim
    | some xs =>
      cases ys with
      | none => exact h.elim
      | some ys => exact .inr (.inl (fAdd_lst st r r' hx hy h))
  unfold fAdd at h
  split at h
  · exact .inl ⟨_, _, r.int, r'.int, AftK.ok h st (rep_int _)⟩
  · obtain ⟨hz, h⟩ := iff_elim h
    exact .inr (.inr (.inr ⟨_, _, r.str, r'.str, by rw [sizeLine_eq]; exact hz, AftK.ok h st (rep_str _)⟩))
  · rename_i xs ys
    obtain ⟨hz, h⟩ := iff_elim h
    obtain ⟨a, vs, rfl, ha, ra⟩ := r.tupF
    obtain ⟨b, us, rfl, hb, rb⟩ := r'.tupF
    have z : vs.length + us.length ≤ sizeLine := by rw [sizeLine_eq, ra.len, rb.len]; exact hz
    refine .inr (.inr (.inl ⟨a, b, vs, us, rfl, rfl, st.sub.sqT (SqT.of ha), st.sub.sqT (SqT.of hb), z, fun e => ?_, fun _ e => ?_, fun _ _ p n => ?_⟩))
    · have : xs = [] := List.eq_nil_of_length_eq_zero (by rw [← ra.len, e]; rfl)
      subst this
      exact AftK.ok h st (rep_tup hb rb)
    · have : ys = [] := List.eq_nil_of_length_eq_zero (by rw [← rb.len, e]; rfl)
      subst this
      rw [List.append_nil] at h
      exact AftK.ok h st (rep_tup ha ra)
    · obtain ⟨st2, gr2⟩ := st.lay (o := .tup (vs ++ us)) n (by show (vs ++ us).length ≤ sizeLine; rw [List.length_append]; exact z)
      exact h _ _ _ _ gr2 st2 (rep_tup upd_same ((ra.append rb).mono gr2.f gr2.r))
  · exact other rfl rfl h

def fSub (d e : D) (M : Sto) : Res D := match d, e with
  | .int i, .int j => .ok (.int (i - j)) M
  | _, _ => .stuck
theorem ops_sub {K : PySem.W.Frag} {mg : Str → Option Value} : OpS K mg (rI0 fun i j => .int (i - j)) fSub := by
  intro F ρ M H d e v u W Q st r r' h
  unfold fSub at h
  split at h
  · exact ⟨_, _, r.int, r'.int, AftK.ok h st (rep_int _)⟩
  · exact h.elim

/-- tuple * 1 is the tuple itself -/
theorem fDiv_dummy : True := trivial
def rDivA : R2 := fun x y H Q => rI CDiv (fun i j => .int (i / j)) x y H Q ∨ rI CDivW (fun i j => .int (i / j)) x y H Q ∨ rI CDivN (fun i j => .int (i.fdiv j)) x y H Q
theorem op_fdivA : OpR X (binaryOp .FloorDiv) rDivA := op_fdiv.or (op_fdivW.or op_fdivN)
def fDiv (d e : D) (M : Sto) : Res D := match d, e with
  | .int i, .int j => if divOk j = true then .ok (.int (i / j)) M else if -1073741824 < j ∧ j < 0 then .ok (.int (i.fdiv j)) M else .stuck
  | _, _ => .stuck
theorem ops_div {K : PySem.W.Frag} {mg : Str → Option Value} : OpS K mg rDivA fDiv := by
  intro F ρ M H d e v u W Q st r r' h
  unfold fDiv at h
  split at h
  · split at h
    · rename_i i j hc
      unfold divOk at hc
      simp only [Bool.or_eq_true, decide_eq_true_eq] at hc
      rcases hc with hc | hc
      · exact .inl ⟨_, _, r.int, r'.int, hc, AftK.ok h st (rep_int _)⟩
      · exact .inr (.inl ⟨_, _, r.int, r'.int, hc, AftK.ok h st (rep_int _)⟩)
    · obtain ⟨hc, h⟩ := iff_elim h
      exact .inr (.inr ⟨_, _, r.int, r'.int, ⟨by omega, by omega⟩, AftK.ok h st (rep_int _)⟩)
  · exact h.elim
def rModA : R2 := fun x y H Q => rI (fun _ j => 0 < j) (fun i j => .int (i % j)) x y H Q ∨ rI (fun _ j => j ≠ 0) (fun i j => .int (i.fmod j)) x y H Q
theorem op_modA : OpR X (binaryOp .Mod) rModA := op_mod.or op_modN
def fMod (d e : D) (M : Sto) : Res D := match d, e with
  | .int i, .int j => if 0 < j then .ok (.int (i % j)) M else if j = 0 then .stuck else .ok (.int (i.fmod j)) M
  | _, _ => .stuck
theorem ops_mod {K : PySem.W.Frag} {mg : Str → Option Value} : OpS K mg rModA fMod := by
  intro F ρ M H d e v u W Q st r r' h
  unfold fMod at h
  split at h
  · split at h
    · rename_i hc
      exact .inl ⟨_, _, r.int, r'.int, hc, AftK.ok h st (rep_int _)⟩
    · split at h
      · exact h.elim
      · rename_i hc
        exact .inr ⟨_, _, r.int, r'.int, hc, AftK.ok h st (rep_int _)⟩
  · exact h.elim
def fPow (d e : D) (M : Sto) : Res D := match d, e with
  | .int i, .int j => if (0 ≤ j ∧ j ≤ 1000000 ∧ i.natAbs < 18446744073709551616) then .ok (.int (i ^ j.toNat)) M else .stuck
  | _, _ => .stuck
theorem ops_pow {K : PySem.W.Frag} {mg : Str → Option Value} : OpS K mg (rI CPow fun i j => .int (i ^ j.toNat)) fPow := by
  intro F ρ M H d e v u W Q st r r' h
  unfold fPow at h
  split at h
  · obtain ⟨hc, h⟩ := iff_elim h
    exact ⟨_, _, r.int, r'.int, hc, AftK.ok h st (rep_int _)⟩
  · exact h.elim
def fNeg (d : D) (M : Sto) : Res D := match d with
  | .int i => .ok (.int (-i)) M
  | _ => .stuck
theorem uns_neg {K : PySem.W.Frag} {mg : Str → Option Value} : UnS K mg (rU fun i => .int (-i)) fNeg := by
  intro F ρ M H d v W Q st r h
  unfold fNeg at h
  split at h
  · exact ⟨_, r.int, AftK.ok h st (rep_int _)⟩
  · exact h.elim

/-! ### comparisons -/
def fLt (d e : D) (_ : Sto) : Option Bool := match d, e with
  | .int i, .int j => some (decide (i < j))
  | _, _ => none
def fLe (d e : D) (_ : Sto) : Option Bool := match d, e with
  | .int i, .int j => some (decide (i ≤ j))
  | _, _ => none
def fGt (d e : D) (_ : Sto) : Option Bool := match d, e with
  | .int i, .int j => some (decide (j < i))
  | _, _ => none
def fGe (d e : D) (_ : Sto) : Option Bool := match d, e with
  | .int i, .int j => some (decide (j ≤ i))
  | _, _ => none
theorem opb_int {K : PySem.W.Frag} {mg : Str → Option Value} {p : Int → Int → Bool} {f : D → D → Sto → Option Bool} (hf : ∀ d e M b, f d e M = some b → ∃ i j, d = .int i ∧ e = .int j ∧ b = p i j) : OpB K mg (rI0 fun i j => .bl (p i j)) f := by
  intro F ρ M H d e v u b Q st r r' h q
  obtain ⟨i, j, rfl, rfl, rfl⟩ := hf _ _ _ _ h
  exact ⟨i, j, r.int, r'.int, q⟩
theorem opb_lt {K : PySem.W.Frag} {mg : Str → Option Value} : OpB K mg (rI0 fun i j => .bl (decide (i < j))) fLt := opb_int fun d e M b h => by
  unfold fLt at h; split at h
  · exact ⟨_, _, rfl, rfl, (Option.some.inj h).symm⟩
  · cases h
theorem opb_le {K : PySem.W.Frag} {mg : Str → Option Value} : OpB K mg (rI0 fun i j => .bl (decide (i ≤ j))) fLe := opb_int fun d e M b h => by
  unfold fLe at h; split at h
  · exact ⟨_, _, rfl, rfl, (Option.some.inj h).symm⟩
  · cases h
theorem opb_gt {K : PySem.W.Frag} {mg : Str → Option Value} : OpB K mg (rI0 fun i j => .bl (decide (j < i))) fGt := opb_int fun d e M b h => by
  unfold fGt at h; split at h
  · exact ⟨_, _, rfl, rfl, (Option.some.inj h).symm⟩
  · cases h
theorem opb_ge {K : PySem.W.Frag} {mg : Str → Option Value} : OpB K mg (rI0 fun i j => .bl (decide (j ≤ i))) fGe := opb_int fun d e M b h => by
  unfold fGe at h; split at h
  · exact ⟨_, _, rfl, rfl, (Option.some.inj h).symm⟩
  · cases h

mutual
/-- data without what may change -/
def toP : D → Option PyData
  | .non => some .none
  | .bl b => some (.bool b)
  | .int i => some (.int i)
  | .str x => some (.str x)
  | .tup ds => (toPs ds).map PyData.tuple
  | .lst ds => (toPs ds).map PyData.list
  | .scr ds => (toPs ds).map PyData.list
  | .obj _ _ _ => none
  | .ref _ => none
def toPs : List D → Option (List PyData)
  | [] => some []
  | d :: ds => match toP d, toPs ds with
    | some p, some ps => some (p :: ps)
    | _, _ => none
end
def toPM (M : Sto) : D → Option PyData
  | .ref n => match M[n]? with
    | some (.lst ds) => (toPs ds).map PyData.list
    | _ => none
  | d => toP d
section
variable {K : PySem.W.Frag} {mg : Str → Option Value} {F : Hp} {ρ : List Addr} {H : Hp} {M : Sto}
mutual
theorem dp_of (s : Sub F H) : ∀ {d : D} {p : PyData} {v : V}, toP d = some p → Rep K mg F ρ d v → Dp K H v p
  | .non, _, _, h, r => by simp [toP] at h; subst h; rw [r.non]; exact .non
  | .bl b, _, _, h, r => by simp [toP] at h; subst h; rw [r.bl]; exact .bl _
  | .int i, _, _, h, r => by simp [toP] at h; subst h; rw [r.int]; exact .int _
  | .str x, _, _, h, r => by simp [toP] at h; subst h; rw [r.str]; exact .str _
  | .tup ds, _, _, h, r => by
    simp only [toP, Option.map_eq_some_iff] at h
    obtain ⟨ps, h1, rfl⟩ := h
    obtain ⟨a, vs, rfl, q, rr⟩ := r.tup
    exact .tup (s.sqT q) (dps_of s h1 rr)
  | .lst ds, _, _, h, r => by
    simp only [toP, Option.map_eq_some_iff] at h
    obtain ⟨ps, h1, rfl⟩ := h
    obtain ⟨a, vs, rfl, q, rr⟩ := r.lst
    exact .lst (SqL.of (s _ _ q)) (dps_of s h1 rr)
  | .scr ds, _, _, h, r => by
    simp only [toP, Option.map_eq_some_iff] at h
    obtain ⟨ps, h1, rfl⟩ := h
    obtain ⟨a, vs, rfl, q, rr⟩ := r.scr
    exact .lst (s.sqL q) (dps_of s h1 rr)
  | .obj _ _ _, _, _, h, _ => by simp [toP] at h
  | .ref _, _, _, h, _ => by simp [toP] at h
theorem dps_of (s : Sub F H) : ∀ {ds : List D} {ps : List PyData} {vs : List V}, toPs ds = some ps → Reps K mg F ρ ds vs → DpAll K H vs ps
  | [], _, _, h, r => by simp [toPs] at h; subst h; rw [r.inv_nil]; exact .nil
  | d :: ds, _, _, h, r => by
    obtain ⟨v, vs, rfl, a, b⟩ := r.inv_cons
    simp only [toPs] at h
    split at h
    · rename_i p ps h1 h2
      simp at h; subst h
      exact .cons (dp_of s h1 a) (dps_of s h2 b)
    · cases h
end
theorem dpM_of (st : StOk K mg F ρ M H) {d : D} {p : PyData} {v : V} (h : toPM M d = some p) (r : Rep K mg F ρ d v) : Dp K H v p := by
  unfold toPM at h
  split at h
  · rename_i n
    split at h
    · rename_i ds hx
      simp only [Option.map_eq_some_iff] at h
      obtain ⟨ps, h1, rfl⟩ := h
      obtain ⟨a, vs, rfl, q, rr, _⟩ := lstOf_at (ds := ds) st r (by simp [lstOf, hx])
      exact .lst (SqL.of q) (dps_of st.sub h1 rr)
    · cases h
  · exact dp_of st.sub h r
end
def fEq (d e : D) (M : Sto) : Option Bool := match toPM M d, toPM M e with
  | some p, some q => if SeqAt.shaped p = true ∧ SeqAt.shaped q = true then some (PyData.eqv p q) else none
  | _, _ => none
def fNe (d e : D) (M : Sto) : Option Bool := (fEq d e M).map (!·)
theorem fEq_elim {K : PySem.W.Frag} {mg : Str → Option Value} {F : Hp} {ρ : List Addr} {M : Sto} {H : Hp} {d e : D} {v u : V} {b : Bool} (st : StOk K mg F ρ M H) (r : Rep K mg F ρ d v) (r' : Rep K mg F ρ e u) (h : fEq d e M = some b) :
    ∃ p q, Dp K H v p ∧ Dp K H u q ∧ SeqAt.shaped p = true ∧ SeqAt.shaped q = true ∧ b = PyData.eqv p q := by
  unfold fEq at h
  split at h
  · rename_i p q h1 h2
    split at h
    · rename_i hs
      exact ⟨p, q, dpM_of st h1 r, dpM_of st h2 r', hs.1, hs.2, (Option.some.inj h).symm⟩
    · cases h
  · cases h
theorem opb_eq {K : PySem.W.Frag} {mg : Str → Option Value} : OpB K mg (rEqD K) fEq := by
  intro F ρ M H d e v u b Q st r r' h q
  obtain ⟨p, p', h1, h2, h3, h4, rfl⟩ := fEq_elim st r r' h
  exact ⟨p, p', h1, h2, h3, h4, q⟩
theorem opb_ne {K : PySem.W.Frag} {mg : Str → Option Value} : OpB K mg (rNeD K) fNe := by
  intro F ρ M H d e v u b Q st r r' h q
  simp only [fNe, Option.map_eq_some_iff] at h
  obtain ⟨c, h, rfl⟩ := h
  obtain ⟨p, p', h1, h2, h3, h4, rfl⟩ := fEq_elim st r r' h
  exact ⟨p, p', h1, h2, h3, h4, q⟩
def isNon : D → Bool
  | .non => true
  | _ => false
def fIs (d e : D) (_ : Sto) : Option Bool := match e with
  | .non => some (isNon d)
  | _ => none
def fIsNot (d e : D) (M : Sto) : Option Bool := (fIs d e M).map (!·)
theorem isNon_rep {K : PySem.W.Frag} {mg : Str → Option Value} {F : Hp} {ρ : List Addr} {d : D} {v : V} (r : Rep K mg F ρ d v) : decide (v = .non) = isNon d := by
  cases d with
  | non => rw [r.non]; rfl
  | bl b => rw [r.bl]; rfl
  | int b => rw [r.int]; rfl
  | str b => rw [r.str]; rfl
  | tup _ => obtain ⟨a, vs, rfl, _⟩ := r.tup; rfl
  | lst _ => obtain ⟨a, vs, rfl, _⟩ := r.lst; rfl
  | scr _ => obtain ⟨a, vs, rfl, _⟩ := r.scr; rfl
  | obj _ _ _ => obtain ⟨a, Ca, dx, vs, rfl, _⟩ := r.obj; rfl
  | ref _ => obtain ⟨a, rfl, _⟩ := r.ref; rfl
theorem opb_is {K : PySem.W.Frag} {mg : Str → Option Value} : OpB K mg (fun x y H Q => y = .non ∧ Q (.bl (decide (x = .non))) H) fIs := by
  intro F ρ M H d e v u b Q st r r' h q
  unfold fIs at h
  split at h
  · refine ⟨r'.non, ?_⟩
    rw [isNon_rep r, Option.some.inj h]
    exact q
  · cases h
theorem opb_isnot {K : PySem.W.Frag} {mg : Str → Option Value} : OpB K mg (fun x y H Q => y = .non ∧ Q (.bl (!decide (x = .non))) H) fIsNot := by
  intro F ρ M H d e v u b Q st r r' h q
  simp only [fIsNot, Option.map_eq_some_iff] at h
  obtain ⟨c, h, rfl⟩ := h
  unfold fIs at h
  split at h
  · refine ⟨r'.non, ?_⟩
    rw [isNon_rep r, Option.some.inj h]
    exact q
  · cases h

/-! ### in -/
def flatD : D → Bool
  | .non => true
  | .bl _ => true
  | .int _ => true
  | .str _ => true
  | _ => false
def eqD0 : D → D → Bool
  | .non, .non => true
  | .bl a, .bl b => a == b
  | .bl a, .int b => (if a then 1 else 0) == b
  | .int a, .bl b => a == (if b then 1 else 0)
  | .int a, .int b => a == b
  | .str a, .str b => a == b
  | _, _ => false
theorem flat_rep {K : PySem.W.Frag} {mg : Str → Option Value} {F : Hp} {ρ : List Addr} {d : D} {v : V} (r : Rep K mg F ρ d v) (h : flatD d = true) : flatV v = true := by
  cases d <;> first
    | (simp [flatD] at h; done)
    | (rw [r.non]; rfl)
    | (rw [r.bl]; rfl)
    | (rw [r.int]; rfl)
    | (rw [r.str]; rfl)
theorem eqV_rep {K : PySem.W.Frag} {mg : Str → Option Value} {F : Hp} {ρ : List Addr} {d e : D} {v u : V} (r : Rep K mg F ρ d v) (r' : Rep K mg F ρ e u) (h : flatD d = true) (h' : flatD e = true) : eqV v u = eqD0 d e := by
  cases d <;> first
    | (simp [flatD] at h; done)
    | (cases e <;> first
        | (simp [flatD] at h'; done)
        | (first | rw [r.non] | rw [r.bl] | rw [r.int] | rw [r.str]) <;> (first | rw [r'.non] | rw [r'.bl] | rw [r'.int] | rw [r'.str]) <;> rfl)
def inD (d : D) (ds : List D) : Bool := ds.any fun e => eqD0 e d
theorem flats_rep {K : PySem.W.Frag} {mg : Str → Option Value} {F : Hp} {ρ : List Addr} : ∀ {ds : List D} {vs : List V}, Reps K mg F ρ ds vs → ds.all flatD = true → vs.all flatV = true
  | [], _, r, _ => by rw [r.inv_nil]; rfl
  | d :: ds, _, r, h => by
    obtain ⟨v, vs, rfl, a, b⟩ := r.inv_cons
    simp only [List.all_cons, Bool.and_eq_true] at h ⊢
    exact ⟨flat_rep a h.1, flats_rep b h.2⟩
theorem in_rep {K : PySem.W.Frag} {mg : Str → Option Value} {F : Hp} {ρ : List Addr} {d : D} {v : V} (r : Rep K mg F ρ d v) (h : flatD d = true) : ∀ {ds : List D} {vs : List V}, Reps K mg F ρ ds vs → ds.all flatD = true → inV v vs = inD d ds
  | [], _, rs, _ => by rw [rs.inv_nil]; rfl
  | e :: ds, _, rs, hs => by
    obtain ⟨u, vs, rfl, a, b⟩ := rs.inv_cons
    simp only [List.all_cons, Bool.and_eq_true] at hs
    have ih := in_rep r h b hs.2
    unfold inV inD at ih ⊢
    rw [List.any_cons, List.any_cons, ih, eqV_rep a r hs.1 h]
def fIn (d e : D) (M : Sto) : Option Bool := match seqOf M e with
  | some ds => if flatD d = true ∧ ds.all flatD = true then some (inD d ds) else none
  | none => none
def fNotIn (d e : D) (M : Sto) : Option Bool := (fIn d e M).map (!·)
theorem fIn_elim {K : PySem.W.Frag} {mg : Str → Option Value} {F : Hp} {ρ : List Addr} {M : Sto} {H : Hp} {d e : D} {v u : V} {b : Bool} (st : StOk K mg F ρ M H) (r : Rep K mg F ρ d v) (r' : Rep K mg F ρ e u) (h : fIn d e M = some b) :
    ∃ p vs, u = .ref p ∧ (SqL K H p vs ∨ SqT K H p vs) ∧ flatV v = true ∧ vs.all flatV = true ∧ b = inV v vs := by
  unfold fIn at h
  split at h
  · rename_i ds hs
    split at h
    · rename_i hc
      obtain ⟨a, vs, rfl, rr, _, q⟩ := seqOf_at st r' hs
      refine ⟨a, vs, rfl, ?_, flat_rep r hc.1, flats_rep rr hc.2, ?_⟩
      · rcases q with ⟨_, q⟩ | ⟨_, q⟩
        · exact .inr q
        · exact .inl q
      · rw [in_rep r hc.1 rr hc.2]; exact (Option.some.inj h).symm
    · cases h
  · cases h
theorem opb_in {K : PySem.W.Frag} {mg : Str → Option Value} : OpB K mg (rIn K false) fIn := by
  intro F ρ M H d e v u b Q st r r' h q
  obtain ⟨p, vs, rfl, h1, h2, h3, rfl⟩ := fIn_elim st r r' h
  exact ⟨p, vs, rfl, h1, h2, h3, q⟩
theorem opb_notin {K : PySem.W.Frag} {mg : Str → Option Value} : OpB K mg (rIn K true) fNotIn := by
  intro F ρ M H d e v u b Q st r r' h q
  simp only [fNotIn, Option.map_eq_some_iff] at h
  obtain ⟨c, h, rfl⟩ := h
  obtain ⟨p, vs, rfl, h1, h2, h3, rfl⟩ := fIn_elim st r r' h
  exact ⟨p, vs, rfl, h1, h2, h3, q⟩
end

/-! ### items, slices -/
def fIx (d e : D) (M : Sto) : Res D := match e with
  | .int i => match d with
    | .str x => if x.length ≤ 16777216 then optR ((atI x.cps.toList i).map fun c => .str ⟨#[c]⟩) M else .stuck
    | d => optR ((seqOf M d).bind fun ds => atI ds i) M
  | _ => .stuck
theorem atI_rep {K : PySem.W.Frag} {mg : Str → Option Value} {F : Hp} {ρ : List Addr} {ds : List D} {vs : List V} {i : Int} {d : D} (r : Reps K mg F ρ ds vs) (h : atI ds i = some d) : ∃ v, atI vs i = some v ∧ Rep K mg F ρ d v := by
  unfold atI at h ⊢
  rw [r.len]
  cases e : ixN ds.length i with
  | none => rw [e] at h; cases h
  | some j => rw [e] at h; exact r.get h
theorem ops_ix {K : PySem.W.Frag} {mg : Str → Option Value} : OpS K mg (rIx K) fIx := by
  intro F ρ M H d e v u W Q st r r' h
  unfold fIx at h
  split at h
  · rename_i i
    split at h
    · rename_i x
      obtain ⟨hz, h⟩ := iff_elim h
      obtain ⟨b, hb, h⟩ := optR_elim h
      simp only [Option.map_eq_some_iff] at hb
      obtain ⟨c, hc, rfl⟩ := hb
      exact .inr (.inr ⟨_, _, _, r.str, r'.int, by rw [sizeLine_eq]; exact hz, hc, AftK.ok h st (rep_str _)⟩)
    · obtain ⟨b, hb, h⟩ := optR_elim h
      cases hs : seqOf M d with
      | none => rw [hs] at hb; cases hb
      | some ds =>
        rw [hs] at hb
        obtain ⟨a, vs, rfl, rr, _, q⟩ := seqOf_at st r hs
        obtain ⟨w, hw, rw'⟩ := atI_rep rr hb
        rcases q with ⟨_, q⟩ | ⟨_, q⟩
        · exact .inr (.inl ⟨a, vs, _, w, rfl, r'.int, q, hw, AftK.ok h st rw'⟩)
        · exact .inl ⟨a, vs, _, w, rfl, r'.int, q, hw, AftK.ok h st rw'⟩
  · exact h.elim
section
variable {X : Cx} {W : WX} {a b c : Expr} {ma mb mc : ME} {pos : Pos}
theorem se_ix (ha : SE X W ma a) (hb : SE X W mb b) (hs : PlainIx b) : SE X W (mBin fIx ma mb) (.Subscript a b pos) :=
  (pe_ix ix_seq ha hb hs).imp fun σ H Q ⟨F, ρ, Γ, M, g, st, h⟩ => ⟨F, ρ, Γ, M, g, st, h.bind.imp fun F1 ρ1 M1 H1 d v gr st1 rv h1 => ⟨F1, ρ1, Γ, M1, g.grow gr, st1,
    h1.bind.imp fun F2 ρ2 M2 H2 e u gr2 st2 ru h2 => ops_ix _ _ _ _ _ _ _ _ _ _ st2 (rv.mono gr2.f gr2.r) ru h2⟩⟩
end
def cutD (xs : List D) (lo hi : Option Int) : List D := (xs.drop (HT.sIx xs.length 0 lo)).take (HT.sIx xs.length xs.length hi - HT.sIx xs.length 0 lo)
theorem cut_rep {K : PySem.W.Frag} {mg : Str → Option Value} {F : Hp} {ρ : List Addr} {ds : List D} {vs : List V} (r : Reps K mg F ρ ds vs) (lo hi : Option Int) : Reps K mg F ρ (cutD ds lo hi) (cutV vs lo hi) := by
  unfold cutD cutV
  rw [r.len]
  exact (r.drop _).take _
def fSl (d : D) (lo hi : Option Int) (M : Sto) : Res D := match d with
  | .str x => if x.length ≤ 16777216 then .ok (.str (cutS x lo hi)) M else .stuck
  | .tup ds => .ok (.tup (cutD ds lo hi)) M
  | d => optR ((seqOf M d).map fun ds => .lst (cutD ds lo hi)) M
def rSlX (K : PySem.W.Frag) : V → Option Int → Option Int → Hp → VK → Prop := fun x lo hi H Q => rSlL K x lo hi H Q ∨ rSlA K x lo hi H Q ∨ rSlS x lo hi H Q
theorem cutD_all {ds : List D} {lo hi : Option Int} (h : HT.sIx ds.length 0 lo = 0 ∧ HT.sIx ds.length ds.length hi = ds.length) : cutD ds lo hi = ds := by
  unfold cutD
  rw [h.1, h.2]
  simp
theorem sl_ops {K : PySem.W.Frag} {mg : Str → Option Value} {F : Hp} {ρ : List Addr} {M : Sto} {H : Hp} {d : D} {v : V} {lo hi : Option Int} {W : XK} {Q : VK} (st : StOk K mg F ρ M H) (r : Rep K mg F ρ d v)
    (h : AftK K mg (Rep K mg) W (fSl d lo hi M) F ρ H (fun _ _ _ H' _ v => Q v H')) : rSlX K v lo hi H Q := by
  unfold fSl at h
  split at h
  · obtain ⟨hz, h⟩ := iff_elim h
    exact .inr (.inr ⟨_, r.str, by rw [sizeLine_eq]; exact hz, AftK.ok h st (rep_str _)⟩)
  · rename_i ds
    obtain ⟨a, vs, rfl, q, rr⟩ := r.tupF
    refine .inr (.inl ⟨a, vs, rfl, st.sub.sqT (SqT.of q), fun hw => ?_, fun _ p n => ?_⟩)
    · rw [rr.len] at hw
      rw [cutD_all hw] at h
      exact AftK.ok h st (rep_tup q rr)
    · obtain ⟨st2, gr2⟩ := st.lay (o := .tup (cutV vs lo hi)) n (Nat.le_trans (cutV_length _ _ _) (st.szT a vs (SqT.of q)))
      exact h _ _ _ _ gr2 st2 (rep_tup upd_same ((cut_rep rr lo hi).mono gr2.f gr2.r))
  · rename_i hstr htup
    obtain ⟨b, hb, h⟩ := optR_elim h
    simp only [Option.map_eq_some_iff] at hb
    obtain ⟨ds, hs, rfl⟩ := hb
    obtain ⟨a, vs, rfl, rr, hz, q⟩ := seqOf_at st r hs
    rcases q with ⟨ht, q⟩ | ⟨_, q⟩
    · cases d <;> first
        | (simp [isTup] at ht; done)
        | exact absurd rfl (htup _)
    · refine .inl ⟨a, vs, rfl, q, fun p n => ?_⟩
      obtain ⟨st2, gr2⟩ := st.lay (o := .lst (cutV vs lo hi)) n (Nat.le_trans (cutV_length _ _ _) hz)
      exact h _ _ _ _ gr2 st2 (rep_lst upd_same ((cut_rep rr lo hi).mono gr2.f gr2.r))
end DL

namespace DL
open PySem PySem.Spec PyProof.Rows L2

/-! ### slices as expressions -/
abbrev MO' := DEnv → Sto → Res (Option Int)
def tDo (K : PySem.W.Frag) (mg : Str → Option Value) (W : WX) (m : MO') : TO := fun σ H Q => ∃ F ρ Γ M, GOk K mg F ρ Γ σ ∧ StOk K mg F ρ M H ∧ AftK (β := Unit) K mg (fun _ _ _ _ => True) (WE W σ) (m Γ M) F ρ H (fun _ _ _ H' o _ => Q o H')
abbrev SO (X : Cx) (W : WX) (m : MO') (e : Option Expr) : Prop := PO X e (tDo X.K X.mg W m)
theorem _root_.L2.PO.imp {X : Cx} {e : Option Expr} {t t' : TO} (h : PO X e t) (k : ∀ σ H Q, t' σ H Q → t σ H Q) : PO X e t' := ⟨fun pins s σ H Q I q => h.run pins s σ H Q I (k _ _ _ q)⟩
def mNoPart : MO' := fun _ M => .ok none M
def mPart (m : ME) : MO' := fun Γ M => (m Γ M).bind fun d M1 => match d with
  | .int i => .ok (some i) M1
  | _ => .stuck
def mSl (m : ME) (lo hi : MO') : ME := fun Γ M => (m Γ M).bind fun d M1 => (lo Γ M1).bind fun l M2 => (hi Γ M2).bind fun u M3 => fSl d l u M3
section
variable {X : Cx} {W : WX} {a b c : Expr} {ma mb mc : ME} {pos : Pos}
theorem so_none : SO X W mNoPart none := po_none.imp fun σ H Q ⟨F, ρ, Γ, M, g, st, h⟩ => AftK.ok (b := ()) h st trivial
theorem so_some (ha : SE X W ma a) : SO X W (mPart ma) (some a) := (po_some ha).imp fun σ H Q ⟨F, ρ, Γ, M, g, st, h⟩ => ⟨F, ρ, Γ, M, g, st, h.bind.imp fun F1 ρ1 M1 H1 d v gr st1 rv h1 => by
  split at h1
  · exact ⟨_, rv.int, AftK.ok (b := ()) h1 st1 trivial⟩
  · exact h1.elim⟩
theorem se_slice {lo hi : Option Expr} {ml mh : MO'} {p2 : Pos} (ha : SE X W ma a) (hl : SO X W ml lo) (hh : SO X W mh hi) : SE X W (mSl ma ml mh) (.Subscript a (.Slice lo hi none p2) pos) :=
  (pe_slice (sl_list.or (sl_tupA.or sl_str)) ha hl hh).imp fun σ H Q ⟨F, ρ, Γ, M, g, st, h⟩ => ⟨F, ρ, Γ, M, g, st, h.bind.imp fun F1 ρ1 M1 H1 d v gr st1 rv h1 => ⟨F1, ρ1, Γ, M1, g.grow gr, st1,
    h1.bind.imp fun F2 ρ2 M2 H2 l _ gr2 st2 _ h2 => ⟨F2, ρ2, Γ, M2, (g.grow gr).grow gr2, st2, h2.bind.imp fun F3 ρ3 M3 H3 u _ gr3 st3 _ h3 => sl_ops st3 ((rv.mono gr2.f gr2.r).mono gr3.f gr3.r) h3⟩⟩⟩
end

/-! ### targets -/
abbrev MG := D → DEnv → Sto → Res DEnv
abbrev MGs := List D → DEnv → Sto → Res DEnv
/-- only these slots are stored -/
def Only (sl : List Nat) (σ σ' : L2.St) : Prop := σ'.length = σ.length ∧ ∀ i : Nat, i ∉ sl → σ'[i]? = σ[i]?
theorem Only.refl (sl : List Nat) (σ : L2.St) : Only sl σ σ := ⟨rfl, fun _ _ => rfl⟩
theorem Only.trans {sl : List Nat} {a b c : L2.St} (h : Only sl a b) (k : Only sl b c) : Only sl a c := ⟨k.1.trans h.1, fun i n => (k.2 i n).trans (h.2 i n)⟩
theorem Only.mono {sl sl' : List Nat} {a b : L2.St} (h : Only sl a b) (s : ∀ i ∈ sl, i ∈ sl') : Only sl' a b := ⟨h.1, fun i n => h.2 i fun m => n (s i m)⟩
theorem Only.set {sl : List Nat} {σ : L2.St} {i : Nat} {x : Option V} (h : i ∈ sl) : Only sl σ (σ.set i x) := ⟨by simp, fun j n => by rw [List.getElem?_set_ne (fun e => n (by rw [← e]; exact h))]⟩
def AftG (K : PySem.W.Frag) (mg : Str → Option Value) (sl : List Nat) (r : Res DEnv) (F : Hp) (ρ : List Addr) (H : Hp) (σ : L2.St) (Q : L2.St → Hp → Prop) : Prop := match r with
  | .ok Γ' M' => ∀ F' ρ' H' σ', Grow F ρ H F' ρ' H' → StOk K mg F' ρ' M' H' → GOk K mg F' ρ' Γ' σ' → Only sl σ σ' → Q σ' H'
  | _ => False
def tG (K : PySem.W.Frag) (mg : Str → Option Value) (sl : List Nat) (m : MG) : TG := fun v σ H Q => ∃ F ρ Γ M d, GOk K mg F ρ Γ σ ∧ StOk K mg F ρ M H ∧ Rep K mg F ρ d v ∧ AftG K mg sl (m d Γ M) F ρ H σ Q
def tGs (K : PySem.W.Frag) (mg : Str → Option Value) (sl : List Nat) (m : MGs) : TGs := fun vs σ H Q => ∃ F ρ Γ M ds, GOk K mg F ρ Γ σ ∧ StOk K mg F ρ M H ∧ Reps K mg F ρ ds vs ∧ AftG K mg sl (m ds Γ M) F ρ H σ Q
abbrev SG (X : Cx) (sl : List Nat) (m : MG) (e : Expr) : Prop := PG X e (tG X.K X.mg sl m)
abbrev SGs (X : Cx) (sl : List Nat) (m : MGs) (es : List Expr) : Prop := PGs X es (tGs X.K X.mg sl m)
theorem _root_.L2.PG.imp {X : Cx} {e : Expr} {t t' : TG} (h : PG X e t) (k : ∀ v σ H Q, t' v σ H Q → t v σ H Q) : PG X e t' := ⟨fun pins s σ H v u Q I r q => h.run pins s σ H v u Q I r (k _ _ _ _ q)⟩
theorem _root_.L2.PG.or {X : Cx} {e : Expr} {t t' : TG} (h : PG X e t) (h' : PG X e t') : PG X e (fun v σ H Q => t v σ H Q ∨ t' v σ H Q) := ⟨fun pins s σ H v u Q I r q => q.elim (h.run pins s σ H v u Q I r) (h'.run pins s σ H v u Q I r)⟩
theorem _root_.L2.PGs.imp {X : Cx} {e : List Expr} {t t' : TGs} (h : PGs X e t) (k : ∀ v σ H Q, t' v σ H Q → t v σ H Q) : PGs X e t' := ⟨fun pins s σ H v u Q I r q => h.run pins s σ H v u Q I r (k _ _ _ _ q)⟩
def mGN (i : Nat) : MG := fun d Γ M => .ok (Γ.set i (some d)) M
def mGNil : MGs := fun ds Γ M => match ds with
  | [] => .ok Γ M
  | _ => .stuck
def mGCons (m : MG) (r : MGs) : MGs := fun ds Γ M => match ds with
  | d :: ds => (m d Γ M).bind fun Γ1 M1 => r ds Γ1 M1
  | _ => .stuck
def mGSeq (n : Nat) (r : MGs) : MG := fun d Γ M => match seqOf M d with
  | some ds => if ds.length = n then r ds Γ M else .stuck
  | none => .stuck
section
variable {X : Cx} {W : WX} {a b c : Expr} {ma mb mc : ME} {pos : Pos} {sl : List Nat}
theorem sg_name {i : Nat} {e : Expr} (h : PG X e (gName i)) (hi : i ∈ sl) : SG X sl (mGN i) e := h.imp fun v σ H Q ⟨F, ρ, Γ, M, d, g, st, r, q⟩ => q _ _ _ _ (Grow.refl _ _ _) st (g.set i r) (Only.set hi)
theorem sgs_nil : SGs X sl mGNil [] := pgs_nil.imp fun vs σ H Q ⟨F, ρ, Γ, M, ds, g, st, r, q⟩ => by
  unfold mGNil at q
  split at q
  · exact ⟨r.inv_nil, q _ _ _ _ (Grow.refl _ _ _) st g (Only.refl _ _)⟩
  · exact q.elim
theorem sgs_cons {e : Expr} {es : List Expr} {m : MG} {r : MGs} (h1 : SG X sl m e) (h2 : SGs X sl r es) (hs : (assignEach (e :: es) X.env).map (·.2) = assign e X.env :: (assignEach es X.env).map (·.2) := by rfl) : SGs X sl (mGCons m r) (e :: es) :=
  (pgs_cons h1 h2 hs).imp fun vs σ H Q ⟨F, ρ, Γ, M, ds, g, st, r, q⟩ => by
    unfold mGCons at q
    split at q
    · rename_i d ds
      obtain ⟨v, vr, rfl, r1, r2⟩ := r.inv_cons
      refine ⟨v, vr, rfl, F, ρ, Γ, M, d, g, st, r1, ?_⟩
      cases hm : m d Γ M with
      | ok Γ1 M1 =>
        rw [hm] at q
        intro F1 ρ1 H1 σ1 gr st1 g1 o1
        refine ⟨F1, ρ1, Γ1, M1, ds, g1, st1, r2.mono gr.f gr.r, ?_⟩
        simp only [Res.bind_ok] at q
        cases hr : (‹MGs› ds Γ1 M1) with
        | ok Γ2 M2 =>
          rw [hr] at q
          exact fun F2 ρ2 H2 σ2 gr2 st2 g2 o2 => q _ _ _ _ (gr.trans gr2) st2 g2 (o1.trans o2)
        | exc x M2 => rw [hr] at q; exact q
        | stuck => rw [hr] at q; exact q
      | exc x M1 => rw [hm] at q; exact q
      | stuck => rw [hm] at q; exact q
    · exact q.elim
theorem sg_seq {es : List Expr} {k n : Nat} {r : MGs} (hc : X.calm = true) (h : SGs X sl r es) (hn : (assignEach es X.env).length = n := by rfl) (hst : (assignEach es X.env).findIdx? (·.1) = none := by rfl) : SG X sl (mGSeq n r) (.Tuple es k pos) :=
  ((pg_tup hc h hn hst).or (pg_lst hc h hn hst)).imp fun v σ H Q ⟨F, ρ, Γ, M, d, g, st, r, q⟩ => by
    unfold mGSeq at q
    split at q
    · rename_i ds hs
      split at q
      · rename_i hl
        obtain ⟨a, vs, rfl, rr, z, sq⟩ := seqOf_at st r hs
        rcases sq with ⟨_, sq⟩ | ⟨_, sq⟩
        · exact .inl ⟨a, vs, rfl, sq, rr.len.trans hl, F, ρ, Γ, M, ds, g, st, rr, q⟩
        · exact .inr ⟨a, vs, rfl, sq, rr.len.trans hl, F, ρ, Γ, M, ds, g, st, rr, q⟩
      · exact q.elim
    · exact q.elim
end

/-! ### statements -/
inductive RS where
  | nx (Γ : DEnv) (M : Sto)
  | ret (d : D) (M : Sto)
  | brk (Γ : DEnv) (M : Sto)
  | ct (Γ : DEnv) (M : Sto)
  | exc (x : Xn) (Γ : DEnv) (M : Sto)
  | stuck
abbrev MS := DEnv → Sto → RS
def Res.toS {α : Type} (r : Res α) (Γ : DEnv) (f : α → Sto → RS) : RS := match r with
  | .ok a M => f a M
  | .exc x M => .exc x Γ M
  | .stuck => .stuck
@[simp] theorem toS_ok {α : Type} (a : α) (M : Sto) (Γ : DEnv) (f : α → Sto → RS) : (Res.ok a M).toS Γ f = f a M := eqn rfl
@[simp] theorem toS_exc {α : Type} (x : Xn) (M : Sto) (Γ : DEnv) (f : α → Sto → RS) : (Res.exc x M : Res α).toS Γ f = .exc x Γ M := rfl
@[simp] theorem toS_stuck {α : Type} (Γ : DEnv) (f : α → Sto → RS) : (Res.stuck : Res α).toS Γ f = .stuck := rfl

def AftS (K : PySem.W.Frag) (mg : Str → Option Value) (W : WX) (r : RS) (F : Hp) (ρ : List Addr) (H : Hp) (N : Nat) (D : Ends) : Prop := match r with
  | .nx Γ M => ∀ F' ρ' H' σ', Grow F ρ H F' ρ' H' → StOk K mg F' ρ' M H' → GOk K mg F' ρ' Γ σ' → σ'.length = N → D.nx σ' H'
  | .ret d M => ∀ F' ρ' H' v, Grow F ρ H F' ρ' H' → StOk K mg F' ρ' M H' → Rep K mg F' ρ' d v → D.rt v H'
  | .brk Γ M => ∀ F' ρ' H' σ', Grow F ρ H F' ρ' H' → StOk K mg F' ρ' M H' → GOk K mg F' ρ' Γ σ' → σ'.length = N → D.bk σ' H'
  | .ct Γ M => ∀ F' ρ' H' σ', Grow F ρ H F' ρ' H' → StOk K mg F' ρ' M H' → GOk K mg F' ρ' Γ σ' → σ'.length = N → D.ct σ' H'
  | .exc x Γ M => ∀ F' ρ' H' σ' c od, Grow F ρ H F' ρ' H' → StOk K mg F' ρ' M H' → GOk K mg F' ρ' Γ σ' → σ'.length = N → RepX K mg F' ρ' H' x c od → W c od σ' H'
  | .stuck => False
section
variable {K : PySem.W.Frag} {mg : Str → Option Value} {W : WX} {F F1 : Hp} {ρ ρ1 : List Addr} {H H1 : Hp} {N : Nat} {D : Ends} {r : RS}
theorem AftS.grow (h : AftS K mg W r F ρ H N D) (g : Grow F ρ H F1 ρ1 H1) : AftS K mg W r F1 ρ1 H1 N D := by
  cases r with
  | nx Γ M => exact fun F' ρ' H' σ' gr => h F' ρ' H' σ' (g.trans gr)
  | ret d M => exact fun F' ρ' H' v gr => h F' ρ' H' v (g.trans gr)
  | brk Γ M => exact fun F' ρ' H' σ' gr => h F' ρ' H' σ' (g.trans gr)
  | ct Γ M => exact fun F' ρ' H' σ' gr => h F' ρ' H' σ' (g.trans gr)
  | exc x Γ M => exact fun F' ρ' H' σ' c od gr => h F' ρ' H' σ' c od (g.trans gr)
  | stuck => exact h
theorem AftS.bind {α β : Type} {R : Hp → List Addr → α → β → Prop} {q : Res α} {Γ : DEnv} {f : α → Sto → RS} {σ : L2.St} (h : AftS K mg W (q.toS Γ f) F ρ H N D) (g : GOk K mg F ρ Γ σ) (hN : σ.length = N) :
    AftK K mg R (WE W σ) q F ρ H (fun F1 ρ1 M1 H1 a _ => AftS K mg W (f a M1) F1 ρ1 H1 N D) := by
  cases q with
  | ok a M => exact fun F' ρ' H' b gr st rr => AftS.grow h gr
  | exc x M => exact fun F' ρ' H' c od gr st rx => h F' ρ' H' σ c od gr st (g.grow gr) hN rx
  | stuck => exact h
end
def tS (K : PySem.W.Frag) (mg : Str → Option Value) (W : WX) (m : MS) : TS := fun D σ H => ∃ F ρ Γ M, GOk K mg F ρ Γ σ ∧ StOk K mg F ρ M H ∧ AftS K mg W (m Γ M) F ρ H σ.length D
abbrev SS (X : Cx) (W : WX) (m : MS) (s : Stmt) : Prop := PS X s (tS X.K X.mg W m)
abbrev SSs (X : Cx) (W : WX) (m : MS) (s : List Stmt) : Prop := PSs X s (tS X.K X.mg W m)
theorem _root_.L2.PS.imp {X : Cx} {e : Stmt} {t t' : TS} (h : PS X e t) (k : ∀ D σ H, t' D σ H → t D σ H) : PS X e t' := ⟨fun pins s σ H D I q => h.run pins s σ H D I (k _ _ _ q)⟩
theorem _root_.L2.PSs.imp {X : Cx} {e : List Stmt} {t t' : TS} (h : PSs X e t) (k : ∀ D σ H, t' D σ H → t D σ H) : PSs X e t' := ⟨fun pins s σ H D I q => h.run pins s σ H D I (k _ _ _ q)⟩

def mPass : MS := fun Γ M => .nx Γ M
def mStuck : MS := fun _ _ => .stuck
def mSeq (m1 m2 : MS) : MS := fun Γ M => match m1 Γ M with
  | .nx Γ1 M1 => m2 Γ1 M1
  | r => r
def mExpr (m : ME) : MS := fun Γ M => (m Γ M).toS Γ fun _ M1 => .nx Γ M1
def mRet (m : ME) : MS := fun Γ M => (m Γ M).toS Γ fun d M1 => .ret d M1
def mRetN : MS := fun _ M => .ret .non M
def mBrk : MS := fun Γ M => .brk Γ M
def mCt : MS := fun Γ M => .ct Γ M
def mIfS (t : MT) (a b : MS) : MS := fun Γ M => (t Γ M).toS Γ fun c M1 => if c = true then a Γ M1 else b Γ M1
def Res.toSG (r : Res DEnv) (f : DEnv → Sto → RS) : RS := match r with
  | .ok a M => f a M
  | _ => .stuck
@[simp] theorem toSG_ok (a : DEnv) (M : Sto) (f : DEnv → Sto → RS) : (Res.ok a M).toSG f = f a M := eqn rfl
def mAsg (m : ME) (g : MG) : MS := fun Γ M => (m Γ M).toS Γ fun d M1 => (g d Γ M1).toSG fun Γ2 M2 => .nx Γ2 M2
section
variable {X : Cx} {W : WX} {a b c : Expr} {ma mb mc : ME} {pos : Pos} {s : Stmt} {ss : List Stmt} {m m' : MS} {t : MT}
theorem ss_nil : SSs X W mPass [] := pss_nil.imp fun D σ H ⟨F, ρ, Γ, M, g, st, h⟩ => h _ _ _ _ (Grow.refl _ _ _) st g rfl
theorem ss_cons (h1 : SS X W m s) (h2 : SSs X W m' ss) : SSs X W (mSeq m m') (s :: ss) := (pss_cons h1 h2).imp fun D σ H ⟨F, ρ, Γ, M, g, st, h⟩ => by
  refine ⟨F, ρ, Γ, M, g, st, ?_⟩
  unfold mSeq at h
  cases hm : m Γ M with
  | nx Γ1 M1 =>
    rw [hm] at h
    exact fun F1 ρ1 H1 σ1 gr st1 g1 hn => ⟨F1, ρ1, Γ1, M1, g1, st1, by rw [hn]; exact AftS.grow h gr⟩
  | ret d M1 => rw [hm] at h; exact h
  | brk Γ1 M1 => rw [hm] at h; exact h
  | ct Γ1 M1 => rw [hm] at h; exact h
  | exc x Γ1 M1 => rw [hm] at h; exact h
  | stuck => rw [hm] at h; exact h
theorem ss_one (h1 : SS X W m s) : SSs X W m [s] := pss_one h1
theorem ss_pass : SS X W mPass (.Pass pos) := ps_pass.imp fun D σ H ⟨F, ρ, Γ, M, g, st, h⟩ => h _ _ _ _ (Grow.refl _ _ _) st g rfl
theorem ss_brk : SS X W mBrk (.Break pos) := ps_break.imp fun D σ H ⟨F, ρ, Γ, M, g, st, h⟩ => h _ _ _ _ (Grow.refl _ _ _) st g rfl
theorem ss_ct : SS X W mCt (.Continue pos) := ps_continue.imp fun D σ H ⟨F, ρ, Γ, M, g, st, h⟩ => h _ _ _ _ (Grow.refl _ _ _) st g rfl
theorem ss_stuck : SS X W mStuck s := ps_never.imp fun D σ H ⟨F, ρ, Γ, M, g, st, h⟩ => h
theorem sss_stuck : SSs X W mStuck ss := pss_never.imp fun D σ H ⟨F, ρ, Γ, M, g, st, h⟩ => h
theorem ss_expr (ha : SE X W ma a) (hs : swapsWith a none pos.line X.env = pure false := by rfl) : SS X W (mExpr ma) (.Expr a pos) := (ps_expr ha hs).imp fun D σ H ⟨F, ρ, Γ, M, g, st, h⟩ =>
  ⟨F, ρ, Γ, M, g, st, (AftS.bind h g rfl).imp fun F1 ρ1 M1 H1 d v gr st1 rv h1 => h1 _ _ _ _ (Grow.refl _ _ _) st1 (g.grow gr) rfl⟩
theorem ss_ret (ha : SE X W ma a) : SS X W (mRet ma) (.Return (some a) pos) := (ps_ret ha).imp fun D σ H ⟨F, ρ, Γ, M, g, st, h⟩ =>
  ⟨F, ρ, Γ, M, g, st, (AftS.bind h g rfl).imp fun F1 ρ1 M1 H1 d v gr st1 rv h1 => h1 _ _ _ _ (Grow.refl _ _ _) st1 rv⟩
theorem ss_retN : SS X W mRetN (.Return none pos) := ps_retN.imp fun D σ H ⟨F, ρ, Γ, M, g, st, h⟩ => h _ _ _ _ (Grow.refl _ _ _) st rep_non
theorem ss_if {x y : List Stmt} (ht : ST X W t c) (ha : SSs X W m x) (hb : SSs X W m' y) : SS X W (mIfS t m m') (.If c x y pos) := (ps_if ht ha hb).imp fun D σ H ⟨F, ρ, Γ, M, g, st, h⟩ =>
  ⟨F, ρ, Γ, M, g, st, (AftS.bind h g rfl).imp fun F1 ρ1 M1 H1 d v gr st1 rv h1 => by
    cases d with
    | true => exact ⟨F1, ρ1, Γ, M1, g.grow gr, st1, h1⟩
    | false => exact ⟨F1, ρ1, Γ, M1, g.grow gr, st1, h1⟩⟩
theorem asg_imp {gm : MG} {sl : List Nat} {D : Ends} {σ : L2.St} {H : Hp} {K : PySem.W.Frag} {mg : Str → Option Value} (h : tS K mg W (mAsg ma gm) D σ H) : tAsg (tD K mg W ma) (tG K mg sl gm) D σ H := by
  obtain ⟨F, ρ, Γ, M, g, st, h⟩ := h
  refine ⟨F, ρ, Γ, M, g, st, (AftS.bind h g rfl).imp fun F1 ρ1 M1 H1 d v gr st1 rv h1 => ⟨F1, ρ1, Γ, M1, d, g.grow gr, st1, rv, ?_⟩⟩
  cases hg : gm d Γ M1 with
  | ok Γ2 M2 =>
    rw [hg] at h1
    exact fun F2 ρ2 H2 σ2 gr2 st2 g2 o2 => h1 _ _ _ _ gr2 st2 g2 o2.1
  | exc x M2 => rw [hg] at h1; exact h1
  | stuck => rw [hg] at h1; exact h1
theorem ss_asg {tg : Expr} {gm : MG} {sl : List Nat} (ha : SE X W ma a) (hg : SG X sl gm tg) (hs : swapsWithSole [tg] a pos.line X.env = pure false := by rfl) (hw : swappedStores [tg] a X.env = pure none := by rfl)
    (h1 : (assignEach [tg] X.env).map (·.2) = [assign tg X.env] := by rfl) : SS X W (mAsg ma gm) (.Assign [tg] a pos) := (ps_asg ha hg hs hw h1).imp fun D σ H h => asg_imp h
/-- x = e, by a rule for the name's slot -/
theorem ss_set {i : Nat} {s : Stmt} (h : PS X s (tAsg (tD X.K X.mg W ma) (gName i))) : SS X W (mAsg ma (mGN i)) s := h.imp fun D σ H ⟨F, ρ, Γ, M, g, st, h⟩ =>
  ⟨F, ρ, Γ, M, g, st, (AftS.bind h g rfl).imp fun F1 ρ1 M1 H1 d v gr st1 rv h1 => h1 _ _ _ _ (Grow.refl _ _ _) st1 ((g.grow gr).set i rv) (by simp)⟩
/-- x, y = a, b with plain local names -/
def mPar (i j : Nat) (ms : MA) : MS := fun Γ M => (ms Γ M).toS Γ fun ds M1 => match ds with
  | [d, e] => .nx ((Γ.set i (some d)).set j (some e)) M1
  | _ => .stuck
theorem ss_par {i j : Nat} {ms : MA} {s : Stmt} (h : PS X s (tPar i j (tDs X.K X.mg W ms))) : SS X W (mPar i j ms) s := h.imp fun D σ H ⟨F, ρ, Γ, M, g, st, h⟩ =>
  ⟨F, ρ, Γ, M, g, st, (AftS.bind h g rfl).imp fun F1 ρ1 M1 H1 ds vs gr st1 rv h1 => by
    split at h1
    · obtain ⟨v, vr, rfl, r1, r2⟩ := rv.inv_cons
      obtain ⟨u, ur, rfl, r3, r4⟩ := r2.inv_cons
      rw [r4.inv_nil]
      exact ⟨v, u, rfl, h1 _ _ _ _ (Grow.refl _ _ _) st1 (((g.grow gr).set i r1).set j r3) (by simp)⟩
    · exact h1.elim⟩
end

/-! ### what is walked -/
def JOk (K : PySem.W.Frag) (mg : Str → Option Value) (F0 : Hp) (ρ0 : List Addr) (p : List D × (Sto → Bool)) (J : It) : Prop :=
  p.1.length ≤ sizeLine ∧ ∀ F ρ M H (i : Nat), Sub F0 F → Pre ρ0 ρ → StOk K mg F ρ M H → p.2 M = true →
    (∀ d, p.1[i]? = some d → J.go i H ∧ ∀ x H', J.yld i H x H' → ∃ F', Grow F ρ H F' ρ H' ∧ StOk K mg F' ρ M H' ∧ Rep K mg F' ρ d x) ∧ (p.1.length ≤ i → J.stop i H)
theorem JOk.mono {K : PySem.W.Frag} {mg : Str → Option Value} {F0 F1 : Hp} {ρ0 ρ1 : List Addr} {p : List D × (Sto → Bool)} {J : It} (h : JOk K mg F0 ρ0 p J) (s : Sub F0 F1) (q : Pre ρ0 ρ1) : JOk K mg F1 ρ1 p J :=
  ⟨h.1, fun F ρ M H i a b => h.2 F ρ M H i (s.trans a) (q.trans b)⟩
abbrev MI := DEnv → Sto → Res (List D × (Sto → Bool))
def tI (K : PySem.W.Frag) (mg : Str → Option Value) (W : WX) (m : MI) : TI := fun σ H R => ∃ F ρ Γ M, GOk K mg F ρ Γ σ ∧ StOk K mg F ρ M H ∧ AftK K mg (JOk K mg) (WE W σ) (m Γ M) F ρ H (fun _ _ _ H' _ J => R J H')
abbrev SI (X : Cx) (W : WX) (m : MI) (tg e : Expr) : Prop := PI X tg e (tI X.K X.mg W m)
theorem _root_.L2.PI.imp {X : Cx} {tg e : Expr} {t t' : TI} (h : PI X tg e t) (k : ∀ σ H Q, t' σ H Q → t σ H Q) : PI X tg e t' := ⟨fun pins s σ H Q I q => h.run pins s σ H Q I (k _ _ _ q)⟩
theorem _root_.L2.PI.or {X : Cx} {tg e : Expr} {te : TE} {f g : TE → TI} (hf : PI X tg e (f te)) (hg : PI X tg e (g te)) : PI X tg e (fun σ H R => f te σ H R ∨ g te σ H R) :=
  ⟨fun pins s σ H Q I q => q.elim (hf.run pins s σ H Q I) (hg.run pins s σ H Q I)⟩

def forL (g : MG) (body : MS) (chk : Sto → Bool) : List D → DEnv → Sto → RS
  | [], Γ, M => if chk M = true then .nx Γ M else .stuck
  | d :: ds, Γ, M => if chk M = true then (g d Γ M).toSG fun Γ1 M1 => match body Γ1 M1 with
      | .nx Γ2 M2 => forL g body chk ds Γ2 M2
      | .ct Γ2 M2 => forL g body chk ds Γ2 M2
      | .brk Γ2 M2 => .nx Γ2 M2
      | r => r
    else .stuck
def mFor (it : MI) (g : MG) (body : MS) : MS := fun Γ M => (it Γ M).toS Γ fun p M1 => forL g body p.2 p.1 Γ M1
section
variable {X : Cx} {W : WX} {a b c : Expr} {ma mb mc : ME} {pos : Pos} {s : Stmt} {ss : List Stmt} {m m' : MS} {t : MT}
theorem ss_for {tg iter : Expr} {body : List Stmt} {mi : MI} {gm : MG} {sl : List Nat} (hp : PassesOwn (model X.prog X.w) X.A X.env X.xe) (hc : X.calm = true) (hi : SI X W mi tg iter) (hg : SG X sl gm tg) (hb : SSs X W m body)
    (hs : ∀ x, foldedSetIterable iter X.env x = pure x := by intro _; rfl) : SS X W (mFor mi gm m) (.For tg iter body [] pos) :=
  (ps_for hp hc hi hg hb hs).imp fun D σ H ⟨F, ρ, Γ, M, g, st, h⟩ => ⟨F, ρ, Γ, M, g, st, (AftS.bind h g rfl).imp fun F1 ρ1 M1 H1 p J gr st1 hJ h1 => by
    obtain ⟨ds, chk⟩ := p
    refine ⟨fun i m' σ' H' => m' = ds.length - i ∧ i ≤ ds.length ∧ σ'.length = σ.length ∧ ∃ F' ρ' Γ' M', Sub F1 F' ∧ Pre ρ1 ρ' ∧ GOk X.K X.mg F' ρ' Γ' σ' ∧ StOk X.K X.mg F' ρ' M' H' ∧ AftS X.K X.mg W (forL gm m chk (ds.drop i) Γ' M') F' ρ' H' σ.length D,
      ⟨_, rfl, Nat.zero_le _, rfl, F1, ρ1, Γ, M1, Sub.refl _, Pre.refl _, g.grow gr, st1, h1⟩, ?_⟩
    rintro i _ σ2 H2 ⟨rfl, hi, hn, F2, ρ2, Γ2, M2, s2, p2, g2, st2, h2⟩
    by_cases hlt : i < ds.length
    · right
      have hd : ds.drop i = ds[i] :: ds.drop (i + 1) := List.drop_eq_getElem_cons hlt
      rw [hd] at h2
      unfold forL at h2
      split at h2
      · rename_i hk
        obtain ⟨go, step⟩ := (hJ.2 F2 ρ2 M2 H2 i s2 p2 st2 hk).1 ds[i] (by simp [hlt])
        refine ⟨go, _, fun σ' H' n => ⟨_, (by show ds.length - (i + 1) < ds.length - i; omega), n⟩, fun x H3 y => ?_⟩
        obtain ⟨F3, gr3, st3, r3⟩ := step x H3 y
        refine ⟨F3, ρ2, Γ2, M2, ds[i], g2.grow gr3, st3, r3, ?_⟩
        cases hg : gm ds[i] Γ2 M2 with
        | exc x M3 => rw [hg] at h2; exact h2
        | stuck => rw [hg] at h2; exact h2
        | ok Γ4 M4 =>
          rw [hg] at h2
          intro F4 ρ4 H4 σ4 gr4 st4 g4 o4
          have h2 := AftS.grow h2 (gr3.trans gr4)
          refine ⟨F4, ρ4, Γ4, M4, g4, st4, ?_⟩
          have hn4 : σ4.length = σ.length := o4.1.trans hn
          have sb : Sub F1 F4 := (s2.trans gr3.f).trans gr4.f
          have pb : Pre ρ1 ρ4 := (p2.trans gr3.r).trans gr4.r
          simp only [toSG_ok] at h2
          rw [hn4]
          cases hbd : m Γ4 M4 with
          | nx Γ5 M5 =>
            rw [hbd] at h2
            exact fun F5 ρ5 H5 σ5 gr5 st5 g5 n5 => ⟨rfl, hlt, n5, F5, ρ5, Γ5, M5, sb.trans gr5.f, pb.trans gr5.r, g5, st5, AftS.grow h2 gr5⟩
          | ct Γ5 M5 =>
            rw [hbd] at h2
            exact fun F5 ρ5 H5 σ5 gr5 st5 g5 n5 => ⟨rfl, hlt, n5, F5, ρ5, Γ5, M5, sb.trans gr5.f, pb.trans gr5.r, g5, st5, AftS.grow h2 gr5⟩
          | brk Γ5 M5 => rw [hbd] at h2; exact h2
          | ret d M5 => rw [hbd] at h2; exact h2
          | exc x Γ5 M5 => rw [hbd] at h2; exact h2
          | stuck => rw [hbd] at h2; exact h2
      · exact h2.elim
    · left
      have e : i = ds.length := by omega
      subst e
      rw [List.drop_length] at h2
      unfold forL at h2
      split at h2
      · rename_i hk
        exact ⟨(hJ.2 F2 ρ2 M2 H2 _ s2 p2 st2 hk).2 (Nat.le_refl _), h2 _ _ _ _ (Grow.refl _ _ _) st2 g2 hn⟩
      · exact h2.elim⟩

def whL (t : MT) (body : MS) : Nat → DEnv → Sto → RS
  | 0, _, _ => .stuck
  | n + 1, Γ, M => (t Γ M).toS Γ fun b M1 => if b = true then match body Γ M1 with
      | .nx Γ2 M2 => whL t body n Γ2 M2
      | .ct Γ2 M2 => whL t body n Γ2 M2
      | .brk Γ2 M2 => .nx Γ2 M2
      | r => r
    else .nx Γ M1
def mWhile (n : Nat) (t : MT) (body : MS) : MS := whL t body n
theorem ss_while {n : Nat} {body : List Stmt} (hp : PassesOwn (model X.prog X.w) X.A X.env X.xe) (ht : ST X W t c) (hb : SSs X W m body) : SS X W (mWhile n t m) (.While c body [] pos) :=
  (ps_while hp ht hb).imp fun D σ H ⟨F, ρ, Γ, M, g, st, h⟩ => by
    refine ⟨fun k σ' H' => σ'.length = σ.length ∧ ∃ F' ρ' Γ' M', GOk X.K X.mg F' ρ' Γ' σ' ∧ StOk X.K X.mg F' ρ' M' H' ∧ AftS X.K X.mg W (whL t m k Γ' M') F' ρ' H' σ.length D, ⟨n, rfl, F, ρ, Γ, M, g, st, h⟩, ?_⟩
    rintro k σ2 H2 ⟨hn, F2, ρ2, Γ2, M2, g2, st2, h2⟩
    cases k with
    | zero => exact h2.elim
    | succ k =>
      refine ⟨F2, ρ2, Γ2, M2, g2, st2, (AftS.bind h2 g2 hn).imp fun F3 ρ3 M3 H3 bb v gr st3 rv h3 => ?_⟩
      cases bb with
      | false => exact h3 _ _ _ _ (Grow.refl _ _ _) st3 (g2.grow gr) hn
      | true =>
        simp only [if_true] at h3 ⊢
        refine ⟨_, fun σ' H' x => ⟨k, Nat.lt_succ_self _, x⟩, F3, ρ3, Γ2, M3, g2.grow gr, st3, ?_⟩
        rw [hn]
        cases hbd : m Γ2 M3 with
        | nx Γ5 M5 =>
          rw [hbd] at h3
          exact fun F5 ρ5 H5 σ5 gr5 st5 g5 n5 => ⟨n5, F5, ρ5, Γ5, M5, g5, st5, AftS.grow h3 gr5⟩
        | ct Γ5 M5 =>
          rw [hbd] at h3
          exact fun F5 ρ5 H5 σ5 gr5 st5 g5 n5 => ⟨n5, F5, ρ5, Γ5, M5, g5, st5, AftS.grow h3 gr5⟩
        | brk Γ5 M5 => rw [hbd] at h3; exact h3
        | ret d M5 => rw [hbd] at h3; exact h3
        | exc x Γ5 M5 => rw [hbd] at h3; exact h3
        | stuck => rw [hbd] at h3; exact h3
end
end DL

namespace DL
open PySem PySem.Spec PyProof.Rows L2

/-! ### a, *b, c = .. -/
theorem ns_inj {h : Heap} {L : Addr} {m m' : Str → Option Value} (a : h.Ns L m) (b : h.Ns L m') : m = m' := by
  obtain ⟨o, es, ep, ho, hd, hk, hm⟩ := a
  obtain ⟨o', es', ep', ho', hd', hk', hm'⟩ := b
  rw [ho] at ho'; cases ho'
  rw [hd] at hd'; cases hd'
  funext x
  exact (hm x).symm.trans (hm' x)
theorem get_none {h : Heap} {a : Addr} (e : h.objs.size ≤ a) : h.get? a = none := Heap.get?_none_of_le e
section
variable {X : Cx} {pins : List (Addr × Obj)} {σ : L2.St} {H : Hp} {s : Shared}
/-- behind a rule over the whole ledger: a new list at D, all else kept -/
theorem star_step {h' : Heap} {D : Addr} {mids : List Value} {vs : List V} {m : Str → Option Value} {tk : Nat} (I : Inv X pins σ H s) (hm : s.heap.Ns X.env.locals m) (r : Vals vs mids) (hz : vs.length ≤ sizeLine)
    (F' : Fr X.base X.env.locals h' m) (N' : News X.base X.env.locals h' ((D, ({ cls := .type "list", data := .seq mids.toArray 0 } : Obj)) :: allNews X.base s.heap X.env.locals)) (lt : ∀ p ∈ allNews X.base s.heap X.env.locals, p.1 < D) :
    H D = none ∧ Inv X pins σ (upd H D (.lst vs)) { s with heap := h', toks := tk } := by
  obtain ⟨hD, hDL, hDb⟩ := N' _ List.mem_cons_self
  have dnone : s.heap.get? D = none := by
    cases q : s.heap.get? D with
    | none => rfl
    | some o => exact absurd (lt _ (mem_allNews hDL hDb q)) (Nat.lt_irrefl _)
  have hHD : H D = none := I.hok.gone dnone
  have kept : ∀ b o, b ≠ X.env.locals → s.heap.get? b = some o → h'.get? b = some o := fun b o hb e => by
    cases q : X.base.get? b with
    | some u =>
      have := I.bk b u q
      rw [e] at this; cases this
      exact F'.keep b _ q
    | none => exact (N' (b, o) (List.mem_cons_of_mem _ (mem_allNews hb q e))).1
  have there : ∀ b o, s.heap.get? b = some o → ∃ o', h'.get? b = some o' := fun b o e => by
    by_cases hb : b = X.env.locals
    · subst hb
      obtain ⟨o', _, _, e', _⟩ := F'.ns
      exact ⟨o', e'⟩
    · exact ⟨o, kept b o hb e⟩
  have nD : ∀ {b : Addr} {o : HO}, H b = some o → b ≠ D := fun {b o} e z => by rw [z, hHD] at e; cases e
  have sD : ∀ {b : Addr} {o : Obj}, s.heap.get? b = some o → b ≠ D := fun {b o} e z => by rw [z, dnone] at e; cases e
  have hok : HOk X.prog X.w (upd H D (.lst vs)) h' := fun b u e => by
    by_cases hb : b = D
    · subst hb
      rw [upd_same] at e; cases e
      exact ⟨hz, mids, 0, r, hD⟩
    · rw [upd_ne hb] at e
      refine (I.hok b u e).stay (fun c v hc q => ?_) (fun c q => by rw [upd_ne (nD q)]; exact q) fun c xs q => by rw [upd_ne (nD q)]; exact q
      refine kept c v (fun z => ?_) q
      rcases hc with hc | hc
      · rw [hc] at z; rw [z, I.free] at e; cases e
      · rw [z, I.free] at hc; cases hc
  refine ⟨hHD, I.step (g' := s.gens) (d' := s.drawn) (ch := []) (fun b z => absurd z (by simp)) (fun b o hb _ _ e _ => kept b o hb e) (fun b o hb _ _ e _ => ⟨o.slots, kept b o hb e⟩) (fun b o _ e n => by rw [upd_ne (sD e)]; exact n)
    (fun b o _ e => there b o e) (fun b xs e => by rw [upd_ne (nD e)]; exact e) (fun b o u e => by rw [upd_ne (nD e)]; exact e) (fun b ps e => ⟨#[], by rw [upd_ne (nD e), e]; simp⟩) (fun m' hm' => by rw [← ns_inj hm hm']; exact F'.ns) hok I.bare⟩
end
/-- n targets, the i-th with a star -/
def gStar (K : PySem.W.Frag) (n i : Nat) (t : TGs) : TG := fun v σ H Q => ∃ a xs, v = .ref a ∧ (SqT K H a xs ∨ SqL K H a xs) ∧ n ≤ xs.length + 1 ∧ xs.length ≤ 16384 ∧
  ∀ D, H D = none → t (xs.take i ++ [.ref D] ++ (xs.drop i).drop (xs.length + 1 - n)) σ (upd H D (.lst ((xs.drop i).take (xs.length + 1 - n)))) Q
def mGStar (n i : Nat) (r : MGs) : MG := fun d Γ M => match seqOf M d with
  | some ds => if n ≤ ds.length + 1 ∧ ds.length ≤ 16384 then r (ds.take i ++ [.lst ((ds.drop i).take (ds.length + 1 - n))] ++ (ds.drop i).drop (ds.length + 1 - n)) Γ M else .stuck
  | none => .stuck
section
variable {X : Cx} {W : WX} {a b c : Expr} {ma mb mc : ME} {pos : Pos} {sl : List Nat}
theorem pg_star {es : List Expr} {k : Nat} {t : TGs} {n i : Nat} (hc : X.calm = true) (h : PGs X es t) (hi : i < n)
    (hn : (assignEach es X.env).length = n := by rfl) (hst : (assignEach es X.env).findIdx? (·.1) = some i := by rfl) : PG X (.Tuple es k pos) (gStar X.K n i t) := by
  refine ⟨fun pins s σ H v u Q I r hw => ?_⟩
  obtain ⟨a, xs, e1, hq, hl, hz, hw⟩ := hw
  subst e1
  cases r
  obtain ⟨m, hm, _⟩ := id I.loc
  have Fr0 : Fr X.base X.env.locals s.heap m := ⟨hm, I.bk, Nat.le_trans I.ok.bsz I.ok.above⟩
  have fin : ∀ (its : List Value), Vals xs its → ∀ D h' tk, Fr X.base X.env.locals h' m → News X.base X.env.locals h' ((D, ({ cls := .type "list", data := .seq ((its.toArray.toList.drop i).take (its.toArray.size + 1 - n)).toArray 0 } : Obj)) :: allNews X.base s.heap X.env.locals) → (∀ p ∈ allNews X.base s.heap X.env.locals, p.1 < D) →
      wpAny (model X.prog X.w) X.A (assignInOrder ((assignEach es X.env).map (·.2)) (its.toArray.toList.take i ++ [.ref D] ++ (its.toArray.toList.drop i).drop (its.toArray.size + 1 - n))) (fun _ s' => ∃ σ' H', Inv X pins σ' H' s' ∧ Q σ' H') X.xe { s with heap := h', toks := tk } := fun its rv D h' tk F' N' lt => by
    have hsz : its.toArray.size = xs.length := by rw [List.size_toArray]; exact rv.length.symm
    obtain ⟨hD, I'⟩ := star_step (mids := (its.toArray.toList.drop i).take (its.toArray.size + 1 - n)) (vs := (xs.drop i).take (xs.length + 1 - n)) (tk := tk) I hm (by rw [hsz]; exact (rv.drop i).take _) (by rw [List.length_take, List.length_drop, sizeLine_eq]; omega) F' N' lt
    refine h.run pins _ σ _ _ _ Q I' ?_ (hw D hD)
    rw [hsz]
    exact ((rv.take i).append (.cons (show RelV (V.ref D) (Value.ref D) from rfl) .nil)).append ((rv.drop i).drop _)
  rcases hq with hq | hq
  · obtain ⟨its, rv, ht, _⟩ := I.tuple hq
    have hsz : its.toArray.size = xs.length := by rw [List.size_toArray]; exact rv.length.symm
    exact PySem.W.kun_assignT Fr0 news_all ht (I.ok.hd hc) hn hst hi (by omega) (by omega) rfl rfl rfl (fin its rv)
  · obtain ⟨its, rv, ht, _⟩ := I.list hq
    have hsz : its.toArray.size = xs.length := by rw [List.size_toArray]; exact rv.length.symm
    exact PySem.W.kun_assignL Fr0 news_all ht.isList (I.ok.hd hc) hn hst hi (by omega) (by omega) rfl rfl rfl (fin its rv)
theorem sg_star {es : List Expr} {k n i : Nat} {r : MGs} (hc : X.calm = true) (h : SGs X sl r es) (hi : i < n) (hn : (assignEach es X.env).length = n := by rfl) (hst : (assignEach es X.env).findIdx? (·.1) = some i := by rfl) : SG X sl (mGStar n i r) (.Tuple es k pos) :=
  (pg_star hc h hi hn hst).imp fun v σ H Q ⟨F, ρ, Γ, M, d, g, st, r, q⟩ => by
    unfold mGStar at q
    split at q
    · rename_i ds hs
      split at q
      · rename_i hl
        obtain ⟨a, vs, rfl, rr, z, sq⟩ := seqOf_at st r hs
        have hlen := rr.len
        refine ⟨a, vs, rfl, ?_, by omega, by omega, fun D hD => ?_⟩
        · rcases sq with ⟨_, sq⟩ | ⟨_, sq⟩
          · exact .inl sq
          · exact .inr sq
        · rw [hlen]
          have z2 : ((vs.drop i).take (ds.length + 1 - n)).length ≤ sizeLine := by rw [List.length_take, List.length_drop, sizeLine_eq]; omega
          obtain ⟨st2, gr2⟩ := st.lay (o := .lst ((vs.drop i).take (ds.length + 1 - n))) hD z2
          have rr2 := rr.mono gr2.f gr2.r
          refine ⟨_, ρ, Γ, M, _, g.grow gr2, st2, (((rr2.take i).append (.cons (rep_lst upd_same ((rr2.drop i).take _)) .nil)).append ((rr2.drop i).drop _)), ?_⟩
          unfold AftG at q ⊢
          split at q
          · exact fun F' ρ' H' σ' gr => q F' ρ' H' σ' (gr2.trans gr)
          · exact q.elim
      · exact q.elim
    · exact q.elim
/-- the star's own name -/
theorem pg_starred {e : Expr} {t : TG} (h : PG X e t) : True := trivial
end

/-! ### sources of a walk -/
def kT : Sto → Bool := fun _ => true
/-- the list at n still stands as it was -/
def kRef (n : Nat) (len : Nat) (M : Sto) : Bool := match M[n]? with
  | some (.lst ds) => ds.length == len
  | _ => false
def iterOf (M : Sto) : D → Option (List D × (Sto → Bool))
  | .tup ds => some (ds, kT)
  | .lst ds => some (ds, kT)
  | .scr ds => some (ds, kT)
  | _ => none
def mIter (m : ME) : MI := fun Γ M => (m Γ M).bind fun d M1 => match iterOf M1 d with
  | some p => .ok p M1
  | none => .stuck
theorem jok_list {K : PySem.W.Frag} {mg : Str → Option Value} {F : Hp} {ρ : List Addr} {a : Addr} {vs : List V} {ds : List D} (h : SqL K F a vs) (r : Reps K mg F ρ ds vs) (z : vs.length ≤ sizeLine) : JOk K mg F ρ (ds, kT) (Itl K a) := by
  refine ⟨by rw [← r.len]; exact z, fun F1 ρ1 M1 H1 i s p st _ => ⟨fun d hd => ?_, fun hi => ⟨vs, (s.trans st.sub).sqL h, by rw [r.len]; exact hi⟩⟩⟩
  obtain ⟨v, hv, rv⟩ := r.get hd
  refine ⟨⟨vs, v, (s.trans st.sub).sqL h, hv⟩, fun x H' y => ?_⟩
  obtain ⟨rfl, y⟩ := y
  have := y vs ((s.trans st.sub).sqL h)
  rw [hv] at this; cases this
  exact ⟨F1, Grow.refl _ _ _, st, rv.mono s p⟩
theorem jok_tup {K : PySem.W.Frag} {mg : Str → Option Value} {F : Hp} {ρ : List Addr} {a : Addr} {vs : List V} {ds : List D} (h : SqT K F a vs) (r : Reps K mg F ρ ds vs) (z : vs.length ≤ sizeLine) : JOk K mg F ρ (ds, kT) (Itt K a) := by
  refine ⟨by rw [← r.len]; exact z, fun F1 ρ1 M1 H1 i s p st _ => ⟨fun d hd => ?_, fun hi => ⟨vs, (s.trans st.sub).sqT h, by rw [r.len]; exact hi⟩⟩⟩
  obtain ⟨v, hv, rv⟩ := r.get hd
  refine ⟨⟨vs, v, (s.trans st.sub).sqT h, hv⟩, fun x H' y => ?_⟩
  obtain ⟨rfl, y⟩ := y
  have := y vs ((s.trans st.sub).sqT h)
  rw [hv] at this; cases this
  exact ⟨F1, Grow.refl _ _ _, st, rv.mono s p⟩
section
variable {X : Cx} {W : WX} {a b c : Expr} {ma mb mc : ME} {pos : Pos} {tg : Expr}
theorem si_seq (ha : SE X W ma a) : SI X W (mIter ma) tg a :=
  ((pi_list (tg := tg) ha).or (pi_tup (tg := tg) ha) (f := iList X.K) (g := iTup X.K)).imp fun σ H R ⟨F, ρ, Γ, M, g, st, h⟩ => by
    unfold mIter at h
    cases hm : ma Γ M with
    | stuck => rw [hm] at h; exact h.elim
    | exc x M1 => rw [hm] at h; exact .inl ⟨F, ρ, Γ, M, g, st, by rw [hm]; exact h⟩
    | ok d M1 =>
      rw [hm] at h
      simp only [Res.bind_ok] at h
      cases hi : iterOf M1 d with
      | none => rw [hi] at h; exact h.elim
      | some p =>
        rw [hi] at h
        cases d with
        | tup ds =>
          cases hi
          refine .inr ⟨F, ρ, Γ, M, g, st, ?_⟩
          rw [hm]
          intro F1 ρ1 H1 v gr st1 rv
          obtain ⟨a, vs, rfl, q, rr⟩ := rv.tup
          exact ⟨a, rfl, ⟨vs, st1.sub.sqT q⟩, h _ _ _ _ gr st1 (jok_tup q rr (st1.szT a vs q))⟩
        | lst ds =>
          cases hi
          refine .inl ⟨F, ρ, Γ, M, g, st, ?_⟩
          rw [hm]
          intro F1 ρ1 H1 v gr st1 rv
          obtain ⟨a, vs, rfl, q, rr⟩ := rv.lst
          have q' : SqL X.K F1 a vs := SqL.of q
          exact ⟨a, rfl, ⟨vs, st1.sub.sqL q'⟩, h _ _ _ _ gr st1 (jok_list q' rr (st1.szL a vs q'))⟩
        | scr ds =>
          cases hi
          refine .inl ⟨F, ρ, Γ, M, g, st, ?_⟩
          rw [hm]
          intro F1 ρ1 H1 v gr st1 rv
          obtain ⟨a, vs, rfl, q, rr⟩ := rv.scr
          exact ⟨a, rfl, ⟨vs, st1.sub.sqL q⟩, h _ _ _ _ gr st1 (jok_list q rr (st1.szL a vs q))⟩
        | _ => cases hi
/-- a list that may change, walked as it stands: its items at the start, its length still the same at each turn -/
def mIterM (m : ME) : MI := fun Γ M => (m Γ M).bind fun d M1 => match d with
  | .ref n => match M1[n]? with
    | some (.lst ds) => .ok (ds, fun M' => match M'[n]? with
        | some (.lst es) => es.length == ds.length && true
        | _ => false) M1
    | _ => .stuck
  | _ => .stuck
end

/-- lo, lo + 1, .. -/
def upTo (lo hi : Int) : List D := (List.range (hi - lo).toNat).map fun i : Nat => D.int (lo + (i : Int))
theorem jok_rng {K : PySem.W.Frag} {mg : Str → Option Value} {F : Hp} {ρ : List Addr} {lo hi : Int} (z : (hi - lo).toNat ≤ 16777216) : JOk K mg F ρ (upTo lo hi, kT) (Itr lo (hi - lo).toNat) := by
  have hl : (upTo lo hi).length = (hi - lo).toNat := by simp [upTo]
  refine ⟨by rw [hl, sizeLine_eq]; exact z, fun F1 ρ1 M1 H1 i s p st _ => ⟨fun d hd => ?_, fun hi' => by rw [hl] at hi'; exact hi'⟩⟩
  have hi' : i < (hi - lo).toNat := by
    have := (List.getElem?_eq_some_iff.mp hd).1
    rw [hl] at this; exact this
  have e : d = .int (lo + i) := by
    simp only [upTo, List.getElem?_map, List.getElem?_range hi', Option.map_some, Option.some.injEq] at hd
    exact hd.symm
  subst e
  refine ⟨hi', fun x H' y => ?_⟩
  obtain ⟨rfl, rfl⟩ := y
  exact ⟨F1, Grow.refl _ _ _, st, rep_int _⟩
def mRng1 (m : MA) : MI := fun Γ M => (m Γ M).bind fun ds M1 => match ds with
  | [.int j] => if j ≤ 16777216 ∧ -4611686018427387904 ≤ j then .ok (upTo 0 j, kT) M1 else .stuck
  | _ => .stuck
def mRng2 (m : MA) : MI := fun Γ M => (m Γ M).bind fun ds M1 => match ds with
  | [.int i, .int j] => if (-1000000000000 ≤ i ∧ i ≤ 1000000000000) ∧ (-1000000000000 ≤ j ∧ j ≤ 1000000000000) ∧ j - i ≤ 16777216 then .ok (upTo i j, kT) M1 else .stuck
  | _ => .stuck
section
variable {X : Cx} {W : WX} {a b c : Expr} {ms : MA} {pos : Pos} {tg : Expr}
theorem si_rng1 {p : Pos} (hg : Gl X "range") (hm : X.mg "range" = none) (ha : SA X W ms [a]) (hs : starEach [a] X.env = [(false, eval a X.env)] := by rfl) : SI X W (mRng1 ms) tg (.Call (.Name "range" p) [a] [] pos) :=
  (pi_range1 hg hm ha hs).imp fun σ H R ⟨F, ρ, Γ, M, g, st, h⟩ => ⟨F, ρ, Γ, M, g, st, h.bind.imp fun F1 ρ1 M1 H1 ds vs gr st1 rv h1 => by
    split at h1
    · obtain ⟨hz, h1⟩ := iff_elim h1
      obtain ⟨v, r, rfl, r1, r2⟩ := rv.inv_cons
      rw [r2.inv_nil, r1.int]
      refine ⟨_, rfl, by omega, by omega, ?_⟩
      have := AftK.ok h1 st1 (jok_rng (by omega))
      simpa using this
    · exact h1.elim⟩
theorem si_rng2 {p : Pos} (hg : Gl X "range") (hm : X.mg "range" = none) (ha : SA X W ms [a, b]) (hs : starEach [a, b] X.env = [(false, eval a X.env), (false, eval b X.env)] := by rfl) (hs2 : starEach [b] X.env = [(false, eval b X.env)] := by rfl) :
    SI X W (mRng2 ms) tg (.Call (.Name "range" p) [a, b] [] pos) :=
  (pi_range2 hg hm ha hs hs2).imp fun σ H R ⟨F, ρ, Γ, M, g, st, h⟩ => ⟨F, ρ, Γ, M, g, st, h.bind.imp fun F1 ρ1 M1 H1 ds vs gr st1 rv h1 => by
    split at h1
    · obtain ⟨hz, h1⟩ := iff_elim h1
      obtain ⟨v, r, rfl, r1, r2⟩ := rv.inv_cons
      obtain ⟨u, r', rfl, r3, r4⟩ := r2.inv_cons
      rw [r4.inv_nil, r1.int, r3.int]
      exact ⟨_, _, rfl, by omega, AftK.ok h1 st1 (jok_rng (by omega))⟩
    · exact h1.elim⟩
end
end DL

namespace DL
open PySem PySem.Spec PyProof.Rows L2

section
variable {X : Cx} {pos : Pos} {sl : List Nat}
theorem pgs_consS {e : Expr} {es : List Expr} {t : TG} {u : TGs} {p : Pos} (h1 : PG X e t) (h2 : PGs X es u)
    (hs : (assignEach (.Starred e p :: es) X.env).map (·.2) = assign e X.env :: (assignEach es X.env).map (·.2) := by rfl) : PGs X (.Starred e p :: es) (gCons t u) := by
  constructor
  intro pins s σ H vs us Q I r h
  obtain ⟨v, vr, rfl, h⟩ := h
  cases r with
  | cons r rr =>
    rw [hs]
    refine assignInOrder_cons (thn (h1.run pins s σ H _ _ _ I r h) ?_)
    rintro _ s1 ⟨σ1, H1, I1, q1⟩
    exact h2.run pins s1 σ1 H1 _ _ Q I1 rr q1
theorem sgs_imp {e : Expr} {es : List Expr} {m : MG} {r : MGs} {ee : List Expr} (h : PGs X ee (gCons (tG X.K X.mg sl m) (tGs X.K X.mg sl r))) : SGs X sl (mGCons m r) ee :=
  h.imp fun vs σ H Q ⟨F, ρ, Γ, M, ds, g, st, rr, q⟩ => by
    unfold mGCons at q
    split at q
    · rename_i d ds
      obtain ⟨v, vr, rfl, r1, r2⟩ := rr.inv_cons
      refine ⟨v, vr, rfl, F, ρ, Γ, M, d, g, st, r1, ?_⟩
      cases hm : m d Γ M with
      | ok Γ1 M1 =>
        rw [hm] at q
        intro F1 ρ1 H1 σ1 gr st1 g1 o1
        refine ⟨F1, ρ1, Γ1, M1, ds, g1, st1, r2.mono gr.f gr.r, ?_⟩
        simp only [Res.bind_ok] at q
        cases hr : r ds Γ1 M1 with
        | ok Γ2 M2 =>
          rw [hr] at q
          exact fun F2 ρ2 H2 σ2 gr2 st2 g2 o2 => q _ _ _ _ (gr.trans gr2) st2 g2 (o1.trans o2)
        | exc x M2 => rw [hr] at q; exact q
        | stuck => rw [hr] at q; exact q
      | exc x M1 => rw [hm] at q; exact q
      | stuck => rw [hm] at q; exact q
    · exact q.elim
theorem sgs_consS {e : Expr} {es : List Expr} {m : MG} {r : MGs} {p : Pos} (h1 : SG X sl m e) (h2 : SGs X sl r es) (hs : (assignEach (.Starred e p :: es) X.env).map (·.2) = assign e X.env :: (assignEach es X.env).map (·.2) := by rfl) : SGs X sl (mGCons m r) (.Starred e p :: es) :=
  sgs_imp (e := e) (es := es) (pgs_consS h1 h2 hs)
end

/-! ### comprehensions -/
def Res.noX {α : Type} (r : Res α) : Res α := match r with
  | .exc _ _ => .stuck
  | r => r
@[simp] theorem noX_ok {α : Type} (a : α) (M : Sto) : (Res.ok a M).noX = .ok a M := rfl
theorem AftK.noX {K : PySem.W.Frag} {mg : Str → Option Value} {α β : Type} {r : Res α} {R : Hp → List Addr → α → β → Prop} {W W' : XK} {F : Hp} {ρ : List Addr} {H : Hp} {C : Hp → List Addr → Sto → Hp → α → β → Prop}
    (h : AftK K mg R W r.noX F ρ H C) : AftK K mg R W' r F ρ H C := by
  cases r with
  | ok a M => exact h
  | exc x M => exact h.elim
  | stuck => exact h
abbrev W0 : WX := fun _ _ _ _ => False
def dwipe (Γ : DEnv) : List Nat → DEnv
  | [] => Γ
  | v :: vs => (dwipe Γ vs).set v none
theorem GOk.wipe {K : PySem.W.Frag} {mg : Str → Option Value} {F : Hp} {ρ : List Addr} {Γ : DEnv} {σ : L2.St} (g : GOk K mg F ρ Γ σ) : ∀ vs : List Nat, GOk K mg F ρ (dwipe Γ vs) (wipe σ vs)
  | [] => g
  | v :: vs => (GOk.wipe g vs).unset v
theorem wipe_in {σ : L2.St} {i : Nat} : ∀ {vs : List Nat}, i ∈ vs → i < σ.length → (wipe σ vs)[i]? = some none
  | v :: vs, h, hl => by
    unfold L2.wipe
    by_cases e : v = i
    · subst e
      rw [List.getElem?_set_self (by rw [wipe_length]; exact hl)]
    · rw [List.getElem?_set_ne e]
      exact wipe_in ((List.mem_cons.mp h).resolve_left fun q => e q.symm) hl
theorem wipe_only {σ σ' : L2.St} {vs sl : List Nat} (h : Only sl (wipe σ vs) σ') (hs : ∀ i ∈ sl, i ∈ vs) : wipe σ' vs = wipe σ vs := by
  have hl : σ'.length = σ.length := by rw [h.1, wipe_length]
  apply List.ext_getElem?
  intro i
  by_cases hm : i ∈ vs
  · by_cases hi : i < σ.length
    · rw [wipe_in hm (by rw [hl]; exact hi), wipe_in hm hi]
    · rw [List.getElem?_eq_none (by rw [wipe_length]; omega), List.getElem?_eq_none (by rw [wipe_length]; omega)]
  · rw [wipe_out hm, h.2 i (fun z => hm (hs i z))]

def lcL (g : MG) (t : MT) (e : ME) (chk : Sto → Bool) (Γ : DEnv) : List D → Sto → Res (List D)
  | [], M => if chk M = true then .ok [] M else .stuck
  | d :: ds, M => if chk M = true then (g d Γ M).noX.bind fun Γ1 M1 => (t Γ1 M1).noX.bind fun b M2 =>
      if b = true then (e Γ1 M2).noX.bind fun y M3 => (lcL g t e chk Γ ds M3).bind fun ys M4 => .ok (y :: ys) M4
      else lcL g t e chk Γ ds M2
    else .stuck
def mLc (it : MI) (g : MG) (vs : List Nat) (t : MT) (e : ME) : ME := fun Γ M => (it Γ M).bind fun p M1 => (lcL g t e p.2 (dwipe Γ vs) p.1 M1).bind fun ys M2 => .ok (.lst ys) M2
def mYes : MT := fun _ M => .ok true M

/-- a thing made here is known for good -/
theorem StOk.freeze {K : PySem.W.Frag} {mg : Str → Option Value} {F : Hp} {ρ : List Addr} {M : Sto} {H : Hp} (st : StOk K mg F ρ M H) {p : Addr} {o : HO} (e : H p = some o) (n : F p = none) (hp : p ∉ ρ) (z : SzOk o) : StOk K mg (upd F p o) ρ M H ∧ Sub F (upd F p o) := by
  have hs : Sub F (upd F p o) := fun a u q => by rw [upd_ne (ne_of_none q n)]; exact q
  refine ⟨⟨fun a u q => ?_, fun a vs h => ?_, fun a vs h => ?_, st.len, st.nd, st.trk, fun m u q => ?_⟩, hs⟩
  · by_cases hq : a = p
    · subst hq; rw [upd_same] at q; rw [e]; exact q
    · rw [upd_ne hq] at q; exact st.sub a u q
  · rcases sqL_ne h with h | ⟨_, h | ⟨ob, h⟩⟩
    · exact st.szL a vs h
    · subst h; exact z
    · subst h; exact z.elim
  · rcases sqT_ne h with h | ⟨_, h | ⟨ob, h⟩⟩
    · exact st.szT a vs h
    · subst h; exact z
    · subst h; exact z.elim
  · obtain ⟨a, h1, h2⟩ := st.at_ m u q
    have ne : a ≠ p := fun q => hp (by rw [← q]; exact List.mem_of_getElem? h1)
    exact ⟨a, h1, h2.mono hs (Pre.refl _) (fun q => by rw [upd_ne ne]; exact q) (.inr rfl)⟩
/-- an own thing of a rule's (a list that grows) is written -/
theorem StOk.other' {K : PySem.W.Frag} {mg : Str → Option Value} {F : Hp} {ρ : List Addr} {M : Sto} {H : Hp} (st : StOk K mg F ρ M H) {p : Addr} {o : HO} (n : F p = none) (hp : p ∉ ρ) : StOk K mg F ρ M (upd H p o) := by
  refine ⟨fun a u e => by rw [upd_ne (ne_of_none e n)]; exact st.sub a u e, st.szL, st.szT, st.len, st.nd, fun a ha => ?_, fun m u e => ?_⟩
  · rw [upd_ne (fun q => hp (by rw [← q]; exact ha))]; exact st.trk a ha
  · obtain ⟨a, h1, h2⟩ := st.at_ m u e
    have ne : a ≠ p := fun q => hp (by rw [← q]; exact List.mem_of_getElem? h1)
    exact ⟨a, h1, h2.mono (Sub.refl _) (Pre.refl _) id (.inr (upd_ne ne))⟩

/-- how a list of a comprehension's grows: D the list, acc what it holds; all else as the rules have it -/
structure LcAt (K : PySem.W.Frag) (mg : Str → Option Value) (F0 : Hp) (ρ0 : List Addr) (H0 : Hp) (p : Addr) (F : Hp) (ρ : List Addr) (M : Sto) (H : Hp) (acc : List V) (ds : List DL.D) : Prop where
  f : Sub F0 F
  r : Pre ρ0 ρ
  fresh : ∀ a ∈ ρ, a ∈ ρ0 ∨ H0 a = none
  keep : ∀ a o, H0 a = some o → a ∉ ρ0 → H a = some o
  st : StOk K mg F ρ M H
  ff : ∀ a o, F a = some o → F0 a = some o ∨ H0 a = none ∨ a ∈ ρ0
  hD : H p = some (.lst acc)
  nF : F p = none
  nR : p ∉ ρ
  rep : Reps K mg F ρ ds acc
section
variable {K : PySem.W.Frag} {mg : Str → Option Value} {F0 F F1 : Hp} {ρ0 ρ ρ1 : List Addr} {M M1 : Sto} {H0 H H1 : Hp} {p : Addr} {acc : List V} {ds : List D}
theorem LcAt.start (st : StOk K mg F0 ρ0 M H0) (n : H0 p = none) : LcAt K mg F0 ρ0 H0 p F0 ρ0 M (upd H0 p (.lst [])) [] [] :=
  let ⟨st1, gr⟩ := st.other (o := .lst []) n
  ⟨Sub.refl _, Pre.refl _, fun _ h => .inl h, gr.keep, st1, fun _ _ h => .inl h, upd_same, st.fnone n, st.notin n, Reps.nil⟩
theorem LcAt.go (x : LcAt K mg F0 ρ0 H0 p F ρ M H acc ds) (gr : Grow F ρ H F1 ρ1 H1) (st : StOk K mg F1 ρ1 M1 H1) : LcAt K mg F0 ρ0 H0 p F1 ρ1 M1 H1 acc ds where
  f := x.f.trans gr.f
  r := x.r.trans gr.r
  fresh := fun a ha => by
    rcases gr.fresh a ha with h | h
    · exact x.fresh a h
    · by_cases hm : a ∈ ρ0
      · exact .inl hm
      · right
        cases q : H0 a with
        | none => rfl
        | some o => rw [x.keep a o q hm] at h; cases h
  keep := fun a o e n => gr.keep a o (x.keep a o e n) fun hm => by
    rcases x.fresh a hm with h | h
    · exact n h
    · rw [h] at e; cases e
  st := st
  ff := fun a o e => by
    rcases gr.ff a o e with h | h | h
    · exact x.ff a o h
    · by_cases hm : a ∈ ρ0
      · exact .inr (.inr hm)
      · right; left
        cases q : H0 a with
        | none => rfl
        | some u => rw [x.keep a u q hm] at h; cases h
    · rcases x.fresh a h with h | h
      · exact .inr (.inr h)
      · exact .inr (.inl h)
  hD := gr.keep _ _ x.hD x.nR
  nF := by
    cases q : F1 p with
    | none => rfl
    | some o =>
      rcases gr.ff p o q with h | h | h
      · rw [x.nF] at h; cases h
      · rw [x.hD] at h; cases h
      · exact absurd h x.nR
  nR := fun hm => by
    rcases gr.fresh p hm with h | h
    · exact x.nR h
    · rw [x.hD] at h; cases h
  rep := x.rep.mono gr.f gr.r
theorem LcAt.push (x : LcAt K mg F0 ρ0 H0 p F ρ M H acc ds) (n : H0 p = none) {d : D} {v : V} (r : Rep K mg F ρ d v) : LcAt K mg F0 ρ0 H0 p F ρ M (upd H p (.lst (acc ++ [v]))) (acc ++ [v]) (ds ++ [d]) where
  f := x.f
  r := x.r
  fresh := x.fresh
  keep := fun a o e h => by rw [upd_ne (ne_of_none e n)]; exact x.keep a o e h
  st := x.st.other' x.nF x.nR
  ff := x.ff
  hD := upd_same
  nF := x.nF
  nR := x.nR
  rep := x.rep.append (.cons r .nil)
theorem LcAt.done (x : LcAt K mg F0 ρ0 H0 p F ρ M H acc ds) (n : H0 p = none) (z : acc.length ≤ sizeLine) : Grow F0 ρ0 H0 (upd F p (.lst acc)) ρ H ∧ StOk K mg (upd F p (.lst acc)) ρ M H ∧ Rep K mg (upd F p (.lst acc)) ρ (.lst ds) (.ref p) := by
  obtain ⟨st1, s1⟩ := x.st.freeze x.hD x.nF x.nR (o := .lst acc) z
  refine ⟨⟨x.f.trans s1, x.r, x.fresh, x.keep, fun a o e => ?_⟩, st1, rep_lst upd_same (x.rep.mono s1 (Pre.refl _))⟩
  by_cases q : a = p
  · subst q; exact .inr (.inl n)
  · rw [upd_ne q] at e; exact x.ff a o e
/-- .. and may be changed from now on -/
theorem LcAt.doneM (x : LcAt K mg F0 ρ0 H0 p F ρ M H acc ds) (n : H0 p = none) (z : acc.length ≤ sizeLine) : Grow F0 ρ0 H0 F (ρ ++ [p]) H ∧ StOk K mg F (ρ ++ [p]) (M ++ [.lst ds]) H ∧ Rep K mg F (ρ ++ [p]) (.ref M.length) (.ref p) := by
  have st := x.st
  refine ⟨⟨x.f, x.r.trans ⟨[p], rfl⟩, fun a ha => ?_, x.keep, x.ff⟩, ⟨st.sub, st.szL, st.szT, by simp [st.len], ?_, fun a ha => ?_, fun m u e => ?_⟩, rep_ref ?_⟩
  · rcases List.mem_append.mp ha with h | h
    · exact x.fresh a h
    · simp at h; subst h; exact .inr n
  · rw [List.nodup_append]
    exact ⟨st.nd, by simp, fun a ha b hb => by simp at hb; subst hb; exact fun q => x.nR (by rw [← q]; exact ha)⟩
  · rcases List.mem_append.mp ha with h | h
    · exact st.trk a h
    · simp at h; subst h; rw [x.hD]; simp
  · by_cases hm : m < M.length
    · rw [List.getElem?_append_left hm] at e
      obtain ⟨a, h1, h2⟩ := st.at_ m u e
      exact ⟨a, Pre.get ⟨[p], rfl⟩ h1, h2.ltail⟩
    · rw [List.getElem?_append_right (by omega)] at e
      have hm0 : m - M.length = 0 := by
        have := (List.getElem?_eq_some_iff.mp e).1
        simp at this; omega
      rw [hm0] at e
      simp at e; subst e
      refine ⟨p, ?_, x.nF, acc, x.hD, x.rep.mono (Sub.refl _) ⟨[p], rfl⟩, z⟩
      rw [List.getElem?_append_right (by rw [st.len]; omega), show m - ρ.length = 0 by rw [st.len]; omega]
      rfl
  · rw [← st.len, List.getElem?_append_right (Nat.le_refl _), Nat.sub_self]
    rfl
end

/-- one turn's step of a comprehension -/
abbrev SG' (X : Cx) (scope : Scope) (sl : List Nat) (gm : MG) (tg : Expr) : Prop := ∀ (s : Shared) (H : Hp) (C : Addr) (cl : List (Str × Addr)) (fp : List Addr), SG (X.blk s H scope (compEnvC scope cl C X.env) fp) sl gm tg
abbrev ST' (X : Cx) (scope : Scope) (t : MT) (ifs : List Expr) : Prop := ∀ (s : Shared) (H : Hp) (C : Addr) (cl : List (Str × Addr)) (fp : List Addr), PTs (X.blk s H scope (compEnvC scope cl C X.env) fp) ifs (tDt X.K X.mg W0 t)
abbrev SE' (X : Cx) (scope : Scope) (m : ME) (e : Expr) : Prop := ∀ (s : Shared) (H : Hp) (C : Addr) (cl : List (Str × Addr)) (fp : List Addr), SE (X.blk s H scope (compEnvC scope cl C X.env) fp) W0 m e
theorem mYes_imp {K : PySem.W.Frag} {mg : Str → Option Value} {W : WX} : ∀ σ H Q, tDt K mg W mYes σ H Q → tYes σ H Q := fun σ H Q ⟨F, ρ, Γ, M, g, st, h⟩ => AftK.ok (b := ()) h st trivial
theorem _root_.L2.PTs.imp {X : Cx} {e : List Expr} {t t' : TT} (h : PTs X e t) (k : ∀ σ H Q, t' σ H Q → t σ H Q) : PTs X e t' := ⟨fun pins s σ H Q I q => h.run pins s σ H Q I (k _ _ _ q)⟩
theorem pts_yes {X : Cx} {W : WX} : PTs X [] (tDt X.K X.mg W mYes) := pts_nil.imp mYes_imp
theorem pts_one' {X : Cx} {W : WX} {c : Expr} {t : MT} (h : ST X W t c) : PTs X [c] (tDt X.K X.mg W t) := pts_one h

theorem lc_imp {K : PySem.W.Frag} {mg : Str → Option Value} {W : WX} {mi : MI} {gm : MG} {vs sl : List Nat} {t : MT} {e : ME} {σ : L2.St} {H : Hp} {Q : VK} {fin : List D → Sto → Res D}
    (hfin : ∀ {F0 ρ0 H0 p F ρ M H acc ds}, LcAt K mg F0 ρ0 H0 p F ρ M H acc ds → H0 p = none → acc.length ≤ sizeLine → AftK K mg (Rep K mg) (WE W σ) (fin ds M) F0 ρ0 H0 (fun _ _ _ H' _ v => Q v H') → Q (.ref p) H)
    (hs : ∀ i ∈ sl, i ∈ vs) (h : tD K mg W (fun Γ M => (mi Γ M).bind fun p M1 => (lcL gm t e p.2 (dwipe Γ vs) p.1 M1).bind fin) σ H Q) :
    tLc (tI K mg W mi) (tG K mg sl gm) (tDt K mg W0 t) (tD K mg W0 e) vs σ H Q := by
  obtain ⟨F, ρ, Γ, M, g, st, h⟩ := h
  refine ⟨F, ρ, Γ, M, g, st, h.bind.imp fun F1 ρ1 M1 H1 p J gr st1 hJ h1 => ?_⟩
  obtain ⟨ds, chk⟩ := p
  intro D nD
  refine ⟨fun i m' H' => m' = ds.length - i ∧ i ≤ ds.length ∧ ∃ F' ρ' M' acc da, LcAt K mg F1 ρ1 H1 D F' ρ' M' H' acc da ∧ acc.length ≤ i ∧
      AftK K mg (Rep K mg) (WE W σ) ((lcL gm t e chk (dwipe Γ vs) (ds.drop i) M').bind fun ys M2 => fin (da ++ ys) M2) F1 ρ1 H1 (fun _ _ _ H' _ v => Q v H'),
    ⟨_, rfl, Nat.zero_le _, F1, ρ1, M1, [], [], .start st1 nD, Nat.zero_le _, by simpa using h1⟩, ?_⟩
  rintro i _ H2 ⟨rfl, hi, F2, ρ2, M2, acc, da, L, hacc, h2⟩
  by_cases hlt : i < ds.length
  · right
    have hd : ds.drop i = ds[i] :: ds.drop (i + 1) := List.drop_eq_getElem_cons hlt
    rw [hd] at h2
    unfold lcL at h2
    split at h2
    · rename_i hk
      obtain ⟨go, step⟩ := (hJ.2 F2 ρ2 M2 H2 i L.f L.r L.st hk).1 ds[i] (by simp [hlt])
      refine ⟨go, _, fun H' n => ⟨_, (by show ds.length - (i + 1) < ds.length - i; omega), n⟩, fun x H3 y => ?_⟩
      obtain ⟨F3, gr3, st3, r3⟩ := step x H3 y
      have L3 := L.go gr3 st3
      have g3 : GOk K mg F3 ρ2 (dwipe Γ vs) (wipe σ vs) := ((g.grow gr).mono L3.f L3.r).wipe vs
      refine ⟨F3, ρ2, dwipe Γ vs, M2, ds[i], g3, st3, r3, ?_⟩
      cases hg : gm ds[i] (dwipe Γ vs) M2 with
      | exc x M3 => rw [hg] at h2; exact h2.elim
      | stuck => rw [hg] at h2; exact h2.elim
      | ok Γ4 M4 =>
        rw [hg] at h2
        simp only [noX_ok, Res.bind_ok] at h2
        intro F4 ρ4 H4 σ4 gr4 st4 g4 o4
        have L4 := L3.go gr4 st4
        refine ⟨wipe_only o4 hs, F4, ρ4, Γ4, M4, g4, st4, ?_⟩
        cases ht : t Γ4 M4 with
        | exc x M3 => rw [ht] at h2; exact h2.elim
        | stuck => rw [ht] at h2; exact h2.elim
        | ok b M5 =>
          rw [ht] at h2
          simp only [noX_ok, Res.bind_ok] at h2
          intro F5 ρ5 H5 _ gr5 st5 _
          have L5 := L4.go gr5 st5
          cases b with
          | false =>
            simp only [Bool.false_eq_true, if_false] at h2 ⊢
            exact ⟨trivial, hlt, F5, ρ5, M5, acc, da, L5, by omega, h2⟩
          | true =>
            simp only [if_true] at h2 ⊢
            refine ⟨F5, ρ5, Γ4, M5, g4.grow gr5, st5, ?_⟩
            cases he : e Γ4 M5 with
            | exc x M3 => rw [he] at h2; exact h2.elim
            | stuck => rw [he] at h2; exact h2.elim
            | ok y M6 =>
              rw [he] at h2
              simp only [noX_ok, Res.bind_ok] at h2
              intro F6 ρ6 H6 v gr6 st6 r6
              have L6 := L5.go gr6 st6
              refine ⟨acc, L6.hD, by have := hJ.1; show acc.length < sizeLine; have h3 : ds.length ≤ sizeLine := this; omega, trivial, hlt, F6, ρ6, M6, _, _, L6.push nD r6, by simp; omega, ?_⟩
              have assoc : ((lcL gm t e chk (dwipe Γ vs) (ds.drop (i + 1)) M6).bind fun ys M4 => .ok (y :: ys) M4).bind (fun ys M2 => fin (da ++ ys) M2) = (lcL gm t e chk (dwipe Γ vs) (ds.drop (i + 1)) M6).bind fun ys M2 => fin (da ++ [y] ++ ys) M2 := by
                cases lcL gm t e chk (dwipe Γ vs) (ds.drop (i + 1)) M6 with
                | ok ys M7 => simp
                | exc x M7 => rfl
                | stuck => rfl
              rw [assoc] at h2
              exact h2
    · exact h2.elim
  · left
    have e1 : i = ds.length := by omega
    subst e1
    rw [List.drop_length] at h2
    unfold lcL at h2
    split at h2
    · rename_i hk
      simp only [Res.bind_ok, List.append_nil] at h2
      exact ⟨(hJ.2 F2 ρ2 M2 H2 _ L.f L.r L.st hk).2 (Nat.le_refl _), hfin L nD (Nat.le_trans hacc hJ.1) h2⟩
    · exact h2.elim
theorem fin_lst {K : PySem.W.Frag} {mg : Str → Option Value} {W : XK} {Q : VK} {F0 ρ0 H0 p F ρ M H acc ds} (L : LcAt K mg F0 ρ0 H0 p F ρ M H acc ds) (n : H0 p = none) (z : acc.length ≤ sizeLine)
    (h : AftK K mg (Rep K mg) W (.ok (.lst ds) M) F0 ρ0 H0 (fun _ _ _ H' _ v => Q v H')) : Q (.ref p) H :=
  let ⟨gr, st, r⟩ := L.done n z
  h _ _ _ _ gr st r
theorem fin_ref {K : PySem.W.Frag} {mg : Str → Option Value} {W : XK} {Q : VK} {F0 ρ0 H0 p F ρ M H acc ds} (L : LcAt K mg F0 ρ0 H0 p F ρ M H acc ds) (n : H0 p = none) (z : acc.length ≤ sizeLine)
    (h : AftK K mg (Rep K mg) W (.ok (.ref M.length) (M ++ [.lst ds])) F0 ρ0 H0 (fun _ _ _ H' _ v => Q v H')) : Q (.ref p) H :=
  let ⟨gr, st, r⟩ := L.doneM n z
  h _ _ _ _ gr st r
/-- a new list that may be changed -/
def mLcM (it : MI) (g : MG) (vs : List Nat) (t : MT) (e : ME) : ME := fun Γ M => (it Γ M).bind fun p M1 => (lcL g t e p.2 (dwipe Γ vs) p.1 M1).bind fun ys M2 => .ok (.ref M2.length) (M2 ++ [.lst ys])
section
variable {X : Cx} {W : WX} {elt tg iter : Expr} {ifs : List Expr} {scope : Scope} {own : List (Str × Nat)} {pos : Pos} {mi : MI} {gm : MG} {sl : List Nat} {t : MT} {e : ME}
theorem se_lc (hc : X.calm = true) (hN : X.N.Nodup) (hi : SI X W mi tg iter) (ok : BlkOk X.N X.env.scope scope own) (hg : SG' X scope (own.map (·.2)) gm tg) (ht : ST' X scope t ifs) (he : SE' X scope e elt)
    (hs : ∀ x, foldedSetIterable iter X.env x = pure x := by intro _; rfl) : SE X W (mLc mi gm (own.map (·.2)) t e) (.ListComp elt [⟨tg, iter, ifs, 0⟩] scope pos) :=
  (pe_lc hc hN hi ok hg ht he hs).imp fun σ H Q h => lc_imp (fin := fun ys M2 => .ok (.lst ys) M2) (fun L n z h => fin_lst L n z h) (fun _ h => h) h
theorem se_lcM (hc : X.calm = true) (hN : X.N.Nodup) (hi : SI X W mi tg iter) (ok : BlkOk X.N X.env.scope scope own) (hg : SG' X scope (own.map (·.2)) gm tg) (ht : ST' X scope t ifs) (he : SE' X scope e elt)
    (hs : ∀ x, foldedSetIterable iter X.env x = pure x := by intro _; rfl) : SE X W (mLcM mi gm (own.map (·.2)) t e) (.ListComp elt [⟨tg, iter, ifs, 0⟩] scope pos) :=
  (pe_lc hc hN hi ok hg ht he hs).imp fun σ H Q h => lc_imp (fin := fun ys M2 => .ok (.ref M2.length) (M2 ++ [MO.lst ys])) (fun L n z h => fin_ref L n z h) (fun _ h => h) h
/-- y = [..] -/
theorem ss_lc {i : Nat} {y : Str} {py spos : Pos} (hc : X.calm = true) (hN : X.N.Nodup) (hy : X.N[i]? = some y) (hyl : X.env.scope.names.lookup y = some .local) (hsw : swapsWith (.ListComp elt [⟨tg, iter, ifs, 0⟩] scope pos) (some (.Name y py)) spos.line X.env = pure true)
    (hi : SI X W mi tg iter) (ok : BlkOk X.N X.env.scope scope own) (hg : SG' X scope (own.map (·.2)) gm tg) (ht : ST' X scope t ifs) (he : SE' X scope e elt) (hs : ∀ x, foldedSetIterable iter X.env x = pure x := by intro _; rfl) :
    SS X W (mAsg (mLc mi gm (own.map (·.2)) t e) (mGN i)) (.Assign [.Name y py] (.ListComp elt [⟨tg, iter, ifs, 0⟩] scope pos) spos) :=
  ss_set ((ps_setLc hc hN hy hyl hsw hi ok hg ht he hs).imp fun D σ H h => lc_imp (fin := fun ys M2 => .ok (.lst ys) M2) (fun L n z h => fin_lst L n z h) (fun _ h => h) h)
theorem ss_lcM {i : Nat} {y : Str} {py spos : Pos} (hc : X.calm = true) (hN : X.N.Nodup) (hy : X.N[i]? = some y) (hyl : X.env.scope.names.lookup y = some .local) (hsw : swapsWith (.ListComp elt [⟨tg, iter, ifs, 0⟩] scope pos) (some (.Name y py)) spos.line X.env = pure true)
    (hi : SI X W mi tg iter) (ok : BlkOk X.N X.env.scope scope own) (hg : SG' X scope (own.map (·.2)) gm tg) (ht : ST' X scope t ifs) (he : SE' X scope e elt) (hs : ∀ x, foldedSetIterable iter X.env x = pure x := by intro _; rfl) :
    SS X W (mAsg (mLcM mi gm (own.map (·.2)) t e) (mGN i)) (.Assign [.Name y py] (.ListComp elt [⟨tg, iter, ifs, 0⟩] scope pos) spos) :=
  ss_set ((ps_setLc hc hN hy hyl hsw hi ok hg ht he hs).imp fun D σ H h => lc_imp (fin := fun ys M2 => .ok (.ref M2.length) (M2 ++ [MO.lst ys])) (fun L n z h => fin_ref L n z h) (fun _ h => h) h)
end
end DL

namespace DL
open PySem PySem.Spec PyProof.Rows L2

/-! ### a def's promise -/
def spD (K : PySem.W.Frag) (mg : Str → Option Value) (n : Nat) (S : Fn) : Sp := fun vs H Q E => ∃ F ρ M ds, Reps K mg F ρ ds vs ∧ ds.length = n ∧ StOk K mg F ρ M H ∧ AftK K mg (Rep K mg) E (S ds M) F ρ H (fun _ _ _ H' _ v => Q v H')
abbrev FnD (P : Program) (w : World) (K : PySem.W.Frag) (mg : Str → Option Value) (base : Heap) (k : Nat) (f : Addr) (fd : FuncData) (ps : List Str) (S : Fn) : Prop := FnOk P w K mg base (L2.CX P w) k f fd ps (spD K mg ps.length S)

/-! ### what is left behind a def: the things above are forgotten -/
mutual
def D.low (n : Nat) : D → Bool
  | .tup ds => lows n ds
  | .lst ds => lows n ds
  | .scr ds => lows n ds
  | .obj _ _ ds => lows n ds
  | .ref m => decide (m < n)
  | _ => true
def lows (n : Nat) : List D → Bool
  | [] => true
  | d :: ds => d.low n && lows n ds
end
def MO.low (n : Nat) : MO → Bool
  | .lst ds => lows n ds
  | .ins _ _ ds => lows n ds
  | .dk _ ds => lows n ds
  | .dt _ ds => lows n ds
  | .dead => true
section
variable {K : PySem.W.Frag} {mg : Str → Option Value} {F : Hp} {ρ : List Addr} {n : Nat}
mutual
theorem Rep.shrink : ∀ {d : D} {v : V}, d.low n = true → Rep K mg F ρ d v → Rep K mg F (ρ.take n) d v
  | .non, _, _, h => h
  | .bl _, _, _, h => h
  | .int _, _, _, h => h
  | .str _, _, _, h => h
  | .tup _, _, b, h => by
    unfold Rep at h ⊢
    obtain ⟨a, vs, e, q, r⟩ := h
    exact ⟨a, vs, e, q, Reps.shrink (by simpa [D.low] using b) r⟩
  | .lst _, _, b, h => by
    unfold Rep at h ⊢
    obtain ⟨a, vs, e, q, r⟩ := h
    exact ⟨a, vs, e, q, Reps.shrink (by simpa [D.low] using b) r⟩
  | .scr _, _, b, h => by
    unfold Rep at h ⊢
    obtain ⟨a, vs, e, q, r⟩ := h
    exact ⟨a, vs, e, q, Reps.shrink (by simpa [D.low] using b) r⟩
  | .obj _ _ _, _, b, h => by
    unfold Rep at h ⊢
    obtain ⟨a, Ca, dx, vs, e, m, q, l, r⟩ := h
    exact ⟨a, Ca, dx, vs, e, m, q, l, Reps.shrink (by simpa [D.low] using b) r⟩
  | .ref m, _, b, h => by
    unfold Rep at h ⊢
    obtain ⟨a, e, q⟩ := h
    have : m < n := by simpa [D.low] using b
    exact ⟨a, e, by rw [List.getElem?_take_of_lt this]; exact q⟩
theorem Reps.shrink : ∀ {ds : List D} {vs : List V}, lows n ds = true → Reps K mg F ρ ds vs → Reps K mg F (ρ.take n) ds vs
  | [], _, _, h => by unfold Reps at h ⊢; exact h
  | _ :: _, _, b, h => by
    unfold Reps at h ⊢
    obtain ⟨v, r, e, x, y⟩ := h
    simp only [lows, Bool.and_eq_true] at b
    exact ⟨v, r, e, Rep.shrink b.1 x, Reps.shrink b.2 y⟩
end
theorem MOk.shrink {H : Hp} {a : Addr} {o : MO} (b : o.low n = true) (h : MOk K mg F ρ H a o) : MOk K mg F (ρ.take n) H a o := by
  cases o with
  | lst ds =>
    obtain ⟨f, vs, e, r, z⟩ := h
    exact ⟨f, vs, e, r.shrink b, z⟩
  | ins C ns ds =>
    obtain ⟨f, Ca, dx, vs, m, e, l, r⟩ := h
    exact ⟨f, Ca, dx, vs, m, e, l, r.shrink b⟩
  | dk ks ds =>
    obtain ⟨f, vs, e, l, r, z⟩ := h
    exact ⟨f, vs, e, l, r.shrink b, z⟩
  | dt ks ds =>
    obtain ⟨f, vs, e, l, r, z⟩ := h
    exact ⟨f, vs, e, l, r.shrink b, z⟩
  | dead => trivial
theorem StOk.shrink {M : Sto} {H : Hp} (st : StOk K mg F ρ M H) (b : (M.take n).all (MO.low n) = true) : StOk K mg F (ρ.take n) (M.take n) H := by
  refine ⟨st.sub, st.szL, st.szT, by simp [st.len], (List.take_sublist _ _).nodup st.nd, fun a ha => st.trk a (List.mem_of_mem_take ha), fun m o e => ?_⟩
  have hm : m < n := by
    have := (List.getElem?_eq_some_iff.mp e).1
    simp at this; omega
  have hmem : o ∈ M.take n := List.mem_of_getElem? e
  rw [List.getElem?_take_of_lt hm] at e
  obtain ⟨a, h1, h2⟩ := st.at_ m o e
  exact ⟨a, by rw [List.getElem?_take_of_lt hm]; exact h1, h2.shrink (List.all_eq_true.mp b o hmem)⟩
end
/-- a def is left: its own things are forgotten, where nothing tells of them -/
def Res.trim (r : Res D) (n : Nat) : Res D := match r with
  | .ok d M => if d.low n = true ∧ (M.take n).all (MO.low n) = true then .ok d (M.take n) else .ok d M
  | .exc x M => if lows n x.ds = true ∧ (M.take n).all (MO.low n) = true then .exc x (M.take n) else .exc x M
  | .stuck => .stuck
theorem Grow.shrink {F F' : Hp} {ρ ρ' : List Addr} {H H' : Hp} (g : Grow F ρ H F' ρ' H') {n : Nat} (h : ρ.length ≤ n) : Grow F ρ H F' (ρ'.take n) H' := by
  obtain ⟨t, e⟩ := g.r
  refine ⟨g.f, ⟨t.take (n - ρ.length), ?_⟩, fun a ha => g.fresh a (List.mem_of_mem_take ha), g.keep, g.ff⟩
  rw [e, List.take_append, List.take_of_length_le h]
theorem trim_elim {K : PySem.W.Frag} {mg : Str → Option Value} {r : Res D} {W : XK} {F : Hp} {ρ : List Addr} {H : Hp} {Q : VK} {n : Nat} (hn : ρ.length ≤ n) (h : AftK K mg (Rep K mg) W (r.trim n) F ρ H (fun _ _ _ H' _ v => Q v H')) :
    AftK K mg (Rep K mg) W r F ρ H (fun _ _ _ H' _ v => Q v H') := by
  cases r with
  | stuck => exact h
  | ok d M =>
    unfold Res.trim at h
    dsimp only at h
    split at h
    · rename_i b
      exact fun F' ρ' H' v gr st rv => h _ _ _ _ (gr.shrink hn) (st.shrink b.2) (rv.shrink b.1)
    · exact h
  | exc x M =>
    unfold Res.trim at h
    dsimp only at h
    split at h
    · rename_i b
      refine fun F' ρ' H' c od gr st rx => h F' (ρ'.take n) H' c od (gr.shrink hn) (st.shrink b.2) ?_
      obtain ⟨C, m, e, l, k⟩ := rx
      refine ⟨C, m, e, l, ?_⟩
      rcases k with k | ⟨d, vs, e2, h2, r2⟩
      · exact .inl k
      · exact .inr ⟨d, vs, e2, h2, r2.shrink b.1⟩
    · exact h
def runB (N : Nat) (m : MS) : Fn := fun ds M => match m (ds.map some ++ List.replicate (N - ds.length) none) M with
  | .nx _ M' => .ok .non M'
  | .ret d M' => .ok d M'
  | .exc x _ M' => .exc x M'
  | _ => .stuck
def mDef (N : Nat) (m : MS) : Fn := fun ds M => (runB N m ds M).trim M.length

theorem start_ok {K : PySem.W.Frag} {mg : Str → Option Value} {F : Hp} {ρ : List Addr} {N : List Str} {ds : List D} {vs : List V} (r : Reps K mg F ρ ds vs) : GOk K mg F ρ (ds.map some ++ List.replicate (N.length - ds.length) none) (start N vs) := by
  have hl := r.len
  refine ⟨by unfold L2.start; simp [hl], fun i d e => ?_⟩
  have hi : i < ds.length := by
    by_cases h : i < ds.length
    · exact h
    · rw [List.getElem?_append_right (by simpa using h)] at e
      rw [List.getElem?_replicate] at e
      split at e <;> cases e
  rw [List.getElem?_append_left (by simpa using hi), List.getElem?_map] at e
  have e' : ds[i]? = some d := by
    cases q : ds[i]? with
    | none => rw [q] at e; cases e
    | some x => rw [q] at e; simp at e; rw [e]
  obtain ⟨v, h1, h2⟩ := r.get e'
  refine ⟨v, ?_, h2⟩
  unfold L2.start
  rw [List.getElem?_append_left (by simp; omega), List.getElem?_map, h1]
  rfl
/-- the body's run -/
theorem runB_imp {K : PySem.W.Frag} {mg : Str → Option Value} {N : List Str} {m : MS} {n : Nat} {vs : List V} {H : Hp} {Q : VK} {E : XK} (h : spD K mg n (mDef N.length m) vs H Q E) :
    tS K mg (fun c d _ H => E c d H) m { nx := fun _ H' => Q .non H', rt := Q } (start N vs) H := by
  obtain ⟨F, ρ, M, ds, r, hl, st, h⟩ := h
  have h := trim_elim (Nat.le_of_eq st.len) h
  refine ⟨F, ρ, _, M, start_ok (N := N) r, st, ?_⟩
  unfold runB at h
  cases hm : m (ds.map some ++ List.replicate (N.length - ds.length) none) M with
  | nx Γ M' => rw [hm] at h; exact fun F' ρ' H' σ' gr st' _ _ => h _ _ _ _ gr st' rep_non
  | ret d M' => rw [hm] at h; exact fun F' ρ' H' v gr st' rv => h _ _ _ _ gr st' rv
  | brk Γ M' => rw [hm] at h; exact h.elim
  | ct Γ M' => rw [hm] at h; exact h.elim
  | exc x Γ M' => rw [hm] at h; exact fun F' ρ' H' σ' c od gr st' _ _ rx => h _ _ _ _ _ gr st' rx
  | stuck => rw [hm] at h; exact h
/-- THE RULE for a def -/
theorem fnD_of {P : Program} {w : World} {K : PySem.W.Frag} {mg : Str → Option Value} {base : Heap} {x qual : Str} {params : Arguments} {body : List Stmt} {scope : Scope} {dvs : List V} {kws : List (Str × V)} {f : Addr} {fd : FuncData} {N ps : List Str} {k : Nat} {m : MS} {n : Nat}
    (F : FunD K x qual params body scope dvs kws f fd) (S : FnScope N ps scope) (hn : N.length = n)
    (hb : ∀ (cdv : Value) (A : Around) (outer : List Env) (s : Shared) (H : Hp) (E : XK), Room k (A.deeper (envOfC qual scope s.heap.objs.size f cdv)) →
      SSs (cxOf (L2.CX P w) P w K mg base N qual scope f cdv A outer s H E) (fun c d _ H => E c d H) m body) : FnD P w K mg base (k + 1) f fd ps (mDef n m) := by
  subst hn
  refine F.ok S (fun vs H Q E ⟨F, ρ, M, ds, r, hl, _⟩ => r.len.trans hl) fun cdv A outer s H vs Q E hr h => ⟨_, hb cdv A outer s H E hr, runB_imp h⟩

/-! ### how arguments come -/
structure KD (K : PySem.W.Frag) (mg : Str → Option Value) (fd : FuncData) (ps : List Str) (n : Nat) (ks : List Str) (gD : List D → List D → List D) : Prop where
  ex : ∃ g gV, KBn K fd ps n ks g gV ∧ ∀ F ρ ds vs es zs, Reps K mg F ρ ds vs → Reps K mg F ρ es zs → Reps K mg F ρ (gD ds es) (gV vs zs)
theorem KD.pos {K : PySem.W.Frag} {mg : Str → Option Value} {fd : FuncData} {ps : List Str} {n : Nat} {ds : List Value} {dvs : List V} {dd : List D} (b : Binds K fd ps ds) (r : Vals dvs ds) (hn : n + ds.length = ps.length) (hd : ∀ F ρ, Reps K mg F ρ dd dvs) : KD K mg fd ps n [] (fun xs _ => xs ++ dd) :=
  ⟨fun us _ => us ++ ds, fun vs _ => vs ++ dvs, ⟨fun s us ws X l1 l2 => by
    have : ws = [] := List.eq_nil_of_length_eq_zero l2
    subst this
    exact b s us X (by rw [List.length_append, l1]; exact hn), fun r1 _ => r1.append r⟩, fun F ρ ds vs es zs r1 _ => r1.append (hd F ρ)⟩
theorem KD.all {K : PySem.W.Frag} {mg : Str → Option Value} {fd : FuncData} {ps : List Str} {n : Nat} (b : Binds K fd ps []) (hn : n = ps.length) : KD K mg fd ps n [] (fun xs _ => xs) :=
  ⟨fun us _ => us, fun vs _ => vs, ⟨fun s us ws X l1 l2 => by
    have : ws = [] := List.eq_nil_of_length_eq_zero l2
    subst this
    have := b s us X (by rw [List.append_nil, l1]; exact hn)
    rw [List.append_nil] at this
    exact this, fun r1 _ => r1⟩, fun F ρ ds vs es zs r1 _ => r1⟩

/-! ### calls -/
def mCall (n m : Nat) (S : Fn) (g : List D → List D → List D) (ms mk : MA) : ME := fun Γ M => (ms Γ M).bind fun ds M1 => (mk Γ M1).bind fun es M2 => if ds.length = n ∧ es.length = m then S (g ds es) M2 else .stuck
abbrev SK (X : Cx) (W : WX) (m : MA) (kws : List Keyword) : Prop := PK X kws (tDs X.K X.mg W m)
theorem _root_.L2.PK.imp {X : Cx} {e : List Keyword} {t t' : TA} (h : PK X e t) (k : ∀ σ H Q, t' σ H Q → t σ H Q) : PK X e t' := ⟨fun pos pins s σ H Q I q => h.run pos pins s σ H Q I (k _ _ _ q)⟩
def tCallNS (n m : Nat) (sp : Sp) (gV : List V → List V → List V) (E : L2.St → XK) (t tk : TA) : TE := fun σ H Q => t σ H fun vs H1 => tk σ H1 fun zs H2 => vs.length = n ∧ zs.length = m ∧ sp (gV vs zs) H2 Q (E σ)
section
variable {X : Cx} {CX : CXT} {k n : Nat} {f C : Addr} {fd : FuncData} {ps ks : List Str} {sp : Sp} {E : L2.St → XK} {x m : Str} {p pos apos : Pos} {o e : Expr} {es : List Expr} {kws : List Keyword} {t tk : TA} {ta : TE} {g : List Value → List Value → List Value} {gV : List V → List V → List V}
theorem run_fnNS {pins : List (Addr × Obj)} {σ : L2.St} {H : Hp} {s : Shared} {Q : VK} {us ws : List Value} {vs zs : List V} (F : FnOk X.prog X.w X.K X.mg X.base CX k f fd ps sp) (hr : Room k X.A) (hb : KBn X.K fd ps n ks g gV) (hx : PassesAt CX X σ (E σ))
    (I : L2.Inv X pins σ H s) (r : Vals vs us) (rz : Vals zs ws) (l1 : vs.length = n) (l2 : zs.length = ks.length) (h : sp (gV vs zs) H Q (E σ)) : wpAny (model X.prog X.w) X.A (call (.ref f) us (ks.zip ws)) (EP X pins σ Q) X.xe s := by
  have r2 := hb.rel r rz
  refine wpAny_call (codeAny_mono (F.run X.A X.stack s H ⟨us, ks.zip ws⟩ (g us ws) (gV vs zs) Q (E σ) hr I.env0 (hb.to s us ws I.kIn (r.length.symm.trans l1) (rz.length.symm.trans l2)) r2 h) fun r s' hq => ?_)
  rcases r with e | fl
  · exact hx pins H s e s' I hq
  · cases fl with
    | ret u => exact I.after hq
    | _ => exact False.elim hq
theorem pe_callNS (F : FnOk X.prog X.w X.K X.mg X.base CX k f fd ps sp) (hr : Room k X.A) (hg : Gl X x) (hm : X.mg x = some (.ref f)) (hk : PySem.W.keepIn X.K (.ref f) = true) (hb : KBn X.K fd ps n ks g gV) (hx : ∀ σ, PassesAt CX X σ (E σ))
    (ha : PA X (e :: es) t) (hkw : PK X kws tk) (hall : (backToKw pos (keywordEach kws X.env)).all (·.1.isSome) = true := by rfl) (hks : (backToKw pos (keywordEach kws X.env)).filterMap (·.1) = ks := by rfl)
    (hdb : (x == ("__debug__" : Str)) = false := by decide) (he : starEach (e :: es) X.env = (false, eval e X.env) :: starEach es X.env := by rfl)
    (hpl : ((backTo pos (starEach (e :: es) X.env)).any (·.1) || (backToKw pos (keywordEach kws X.env)).any (·.1.isNone)) = false := by rfl) :
    PE X (.Call (.Name x p) (e :: es) kws pos) (tCallNS n ks.length sp gV E t tk) := by
  constructor
  intro pins s σ H Q I h
  refine wpAny_Call_Name_kw (ld_glob I hg hm ?_ hdb)
  refine PySem.W.callWith_KW (h₀ := X.base) I.ok.mod.kin hk hall (thn (ha.run pos pins s σ H _ I h) ?_) hpl he
  rintro us s1 ⟨vs, H1, I1, r, q⟩
  refine thn (hkw.run pos pins s1 σ H1 _ I1 q) ?_
  rintro ws s2 ⟨zs, H2, I2, rz, l1, l2, q2⟩
  refine ⟨I2.kIn, ?_⟩
  rw [hks]
  exact run_fnNS F hr hb (hx σ) I2 r rz l1 l2 q2
theorem pe_callNS0 (F : FnOk X.prog X.w X.K X.mg X.base CX k f fd ps sp) (hr : Room k X.A) (hg : Gl X x) (hm : X.mg x = some (.ref f)) (hk : PySem.W.keepIn X.K (.ref f) = true) (hb : KBn X.K fd ps n ks g gV) (hx : ∀ σ, PassesAt CX X σ (E σ))
    (hkw : PK X kws tk) (hall : (backToKw pos (keywordEach kws X.env)).all (·.1.isSome) = true := by rfl) (hks : (backToKw pos (keywordEach kws X.env)).filterMap (·.1) = ks := by rfl)
    (hdb : (x == ("__debug__" : Str)) = false := by decide)
    (hpl : ((backTo pos (starEach [] X.env)).any (·.1) || (backToKw pos (keywordEach kws X.env)).any (·.1.isNone)) = false := by rfl) :
    PE X (.Call (.Name x p) [] kws pos) (tCallNS n ks.length sp gV E tNil tk) := by
  constructor
  intro pins s σ H Q I h
  refine wpAny_Call_Name_kw (ld_glob I hg hm ?_ hdb)
  refine PySem.W.callWith_KW0 (h₀ := X.base) I.ok.mod.kin hk hall ?_ hpl
  refine thn (hkw.run pos pins s σ H _ I h) ?_
  rintro ws s2 ⟨zs, H2, I2, rz, l1, l2, q2⟩
  refine ⟨I2.kIn, ?_⟩
  rw [hks]
  exact run_fnNS (us := []) (vs := []) F hr hb (hx σ) I2 .nil rz l1 l2 q2
/-- o.m(..), o an instance of the class at C -/
def tMethNS (C : Addr) (m : Str) (n k : Nat) (sp : Sp) (gV : List V → List V → List V) (E : L2.St → XK) (ta : TE) (t tk : TA) : TE := fun σ H Q => ta σ H fun x H1 => ∃ a dx fs, x = .ref a ∧ H1 a = some (.ins C dx fs) ∧ fs.lookup m = none ∧
  t σ H1 fun vs H2 => tk σ H2 fun zs H3 => vs.length + 1 = n ∧ zs.length = k ∧ sp (gV (x :: vs) zs) H3 Q (E σ)
theorem pe_methNS {pl : Sem Bool} (he : PE X o ta) (c : Cls X.K C) (hm : Meth X.K C m f) (F : FnOk X.prog X.w X.K X.mg X.base CX k f fd ps sp) (hr : Room k X.A) (hb : KBn X.K fd ps n ks g gV) (hx : ∀ σ, PassesAt CX X σ (E σ)) (ha : PA X (e :: es) t) (hkw : PK X kws tk)
    (hall : (backToKw pos (keywordEach kws X.env)).all (·.1.isSome) = true := by rfl) (hks : (backToKw pos (keywordEach kws X.env)).filterMap (·.1) = ks := by rfl)
    (hst : starEach (e :: es) X.env = (false, eval e X.env) :: starEach es X.env := by rfl) (hpl : ((backTo pos (starEach (e :: es) X.env)).any (·.1) || (backToKw pos (keywordEach kws X.env)).any (·.1.isNone)) = false := by rfl)
    (ht : eval (.Call (.Attribute o m apos) (e :: es) kws pos) X.env = (do
      let ov ← eval o X.env
      standAt apos.atName
      let (f, first) ← holding [ov] (getMethod ov m pl)
      callWith pos f first (backTo pos (starEach (e :: es) X.env)) (backToKw pos (keywordEach kws X.env))) := by rfl) :
    PE X (.Call (.Attribute o m apos) (e :: es) kws pos) (tMethNS C m n ks.length sp gV E ta t tk) := by
  constructor
  intro pins s σ H Q I h
  refine PySem.W.methodCall_KW (pl := pl) (thn (he.run pins s σ H _ I h) ?_) ht
  rintro u s1 ⟨x, H1, I1, rx, a, dx, fs, ex, ea, l, q⟩
  subst ex
  obtain rfl : u = Value.ref a := rx
  refine getmeth_ok I1 ea c hm l ?_
  refine PySem.W.callWith_KW (first := [.ref a]) (h₀ := X.base) I.ok.mod.kin hm.kp hall (thn (ha.run pos pins s1 σ H1 _ I1 q) ?_) hpl hst
  rintro us s2 ⟨vs, H2, I2, r, q2⟩
  refine thn (hkw.run pos pins s2 σ H2 _ I2 q2) ?_
  rintro ws s3 ⟨zs, H3, I3, rz, l1, l2, q3⟩
  refine ⟨I3.kIn, ?_⟩
  rw [hks]
  exact run_fnNS (us := .ref a :: us) (vs := .ref a :: vs) F hr hb (hx σ) I3 (.cons rfl r) rz l1 l2 q3
theorem pe_methNS0 {pl : Sem Bool} (he : PE X o ta) (c : Cls X.K C) (hm : Meth X.K C m f) (F : FnOk X.prog X.w X.K X.mg X.base CX k f fd ps sp) (hr : Room k X.A) (hb : KBn X.K fd ps n ks g gV) (hx : ∀ σ, PassesAt CX X σ (E σ)) (hkw : PK X kws tk)
    (hall : (backToKw pos (keywordEach kws X.env)).all (·.1.isSome) = true := by rfl) (hks : (backToKw pos (keywordEach kws X.env)).filterMap (·.1) = ks := by rfl)
    (hpl : ((backTo pos (starEach [] X.env)).any (·.1) || (backToKw pos (keywordEach kws X.env)).any (·.1.isNone)) = false := by rfl)
    (ht : eval (.Call (.Attribute o m apos) [] kws pos) X.env = (do
      let ov ← eval o X.env
      standAt apos.atName
      let (f, first) ← holding [ov] (getMethod ov m pl)
      callWith pos f first (backTo pos (starEach [] X.env)) (backToKw pos (keywordEach kws X.env))) := by rfl) :
    PE X (.Call (.Attribute o m apos) [] kws pos) (tMethNS C m n ks.length sp gV E ta tNil tk) := by
  constructor
  intro pins s σ H Q I h
  refine PySem.W.methodCall_KW (pl := pl) (thn (he.run pins s σ H _ I h) ?_) ht
  rintro u s1 ⟨x, H1, I1, rx, a, dx, fs, ex, ea, l, q⟩
  subst ex
  obtain rfl : u = Value.ref a := rx
  refine getmeth_ok I1 ea c hm l ?_
  refine PySem.W.callWith_KW0 (first := [.ref a]) (h₀ := X.base) I.ok.mod.kin hm.kp hall ?_ hpl
  refine thn (hkw.run pos pins s1 σ H1 _ I1 q) ?_
  rintro ws s3 ⟨zs, H3, I3, rz, l1, l2, q3⟩
  refine ⟨I3.kIn, ?_⟩
  rw [hks]
  exact run_fnNS (us := [.ref a]) (vs := [.ref a]) F hr hb (hx σ) I3 (.cons rfl .nil) rz l1 l2 q3
/-- C(..) -/
def tMakeNS (C : Addr) (n m : Nat) (sp : Sp) (gV : List V → List V → List V) (E : L2.St → XK) (t tk : TA) : TE := fun σ H Q => t σ H fun vs H1 => tk σ H1 fun zs H2 => vs.length + 1 = n ∧ zs.length = m ∧ ∀ x dx, H2 x = none → H2 dx = none → dx ≠ x →
  sp (gV (.ref x :: vs) zs) (upd (upd H2 dx (.own x)) x (.ins C dx [])) (fun v H3 => v = .non ∧ Q (.ref x) H3) (E σ)
theorem run_makeNS {pins : List (Addr × Obj)} {σ : L2.St} {H : Hp} {s : Shared} {Q : VK} {us ws : List Value} {vs zs : List V} (M : Mk X.K C f) (F : FnOk X.prog X.w X.K X.mg X.base CX k f fd ps sp) (hr : Room (k + 1) X.A) (hb : KBn X.K fd ps n ks g gV) (hx : PassesAt CX X σ (E σ))
    (hx2 : ∀ s2 e s', L2.Inv X pins σ (upd (upd H s.heap.objs.size (.own (s.heap.objs.size + 1))) (s.heap.objs.size + 1) (.ins C s.heap.objs.size [])) s2 → CX X.stack (upd (upd H s.heap.objs.size (.own (s.heap.objs.size + 1))) (s.heap.objs.size + 1) (.ins C s.heap.objs.size [])) s2 (E σ) e s' → X.xe e s')
    (I : L2.Inv X pins σ H s) (r : Vals vs us) (rz : Vals zs ws) (l1 : vs.length + 1 = n) (l2 : zs.length = ks.length)
    (h : ∀ x dx, H x = none → H dx = none → dx ≠ x → sp (gV (.ref x :: vs) zs) (upd (upd H dx (.own x)) x (.ins C dx [])) (fun v H2 => v = .non ∧ Q (.ref x) H2) (E σ)) :
    wpAny (model X.prog X.w) X.A (call (.ref C) us (ks.zip ws)) (EP X pins σ Q) X.xe s := by
  have hq := h (s.heap.objs.size + 1) s.heap.objs.size (I.hok.fresh (Nat.le_succ _)) (I.hok.fresh (Nat.le_refl _)) (Nat.ne_of_lt (Nat.lt_succ_self _))
  have I2 := Inv.made (C := C) I
  have r1 : Vals (V.ref (s.heap.objs.size + 1) :: vs) (Value.ref (s.heap.objs.size + 1) :: us) := .cons rfl r
  have r2 := hb.rel r1 rz
  have n1 : (Value.ref (s.heap.objs.size + 1) :: us).length = n := by rw [List.length_cons, ← r.length]; exact l1
  refine wpAny_call (make_map (f := f) I.kIn M.makes M.init (beq_iff_eq.mp M.fn) (codeAny_mono (F.run _ X.stack _ _ ⟨Value.ref (s.heap.objs.size + 1) :: us, ks.zip ws⟩ (g (Value.ref (s.heap.objs.size + 1) :: us) ws) _ _ (E σ) (hr.make C us (ks.zip ws))
    (I2.env0.make C us (ks.zip ws)) (hb.to _ (Value.ref (s.heap.objs.size + 1) :: us) ws I2.kIn n1 (rz.length.symm.trans l2)) r2 hq) fun r s' hq' => ?_))
  rcases r with e | fl
  · exact hx2 _ e s' I2 hq'
  · cases fl with
    | ret u =>
      obtain ⟨v, H', I3, rv, ev, q3⟩ := I2.after hq'
      subst ev
      exact ⟨rv, ⟨V.ref (s.heap.objs.size + 1), H', I3, rfl, q3⟩⟩
    | _ => exact False.elim hq'
theorem pe_makeNS (M : Mk X.K C f) (F : FnOk X.prog X.w X.K X.mg X.base CX k f fd ps sp) (hr : Room (k + 1) X.A) (hg : Gl X x) (hm : X.mg x = some (.ref C)) (hb : KBn X.K fd ps n ks g gV) (hx : ∀ σ, PassesAt CX X σ (E σ)) (ha : PA X (e :: es) t) (hkw : PK X kws tk)
    (hall : (backToKw pos (keywordEach kws X.env)).all (·.1.isSome) = true := by rfl) (hks : (backToKw pos (keywordEach kws X.env)).filterMap (·.1) = ks := by rfl) (hdb : (x == ("__debug__" : Str)) = false := by decide)
    (he : starEach (e :: es) X.env = (false, eval e X.env) :: starEach es X.env := by rfl) (hpl : ((backTo pos (starEach (e :: es) X.env)).any (·.1) || (backToKw pos (keywordEach kws X.env)).any (·.1.isNone)) = false := by rfl) :
    PE X (.Call (.Name x p) (e :: es) kws pos) (tMakeNS C n ks.length sp gV E t tk) := by
  constructor
  intro pins s σ H Q I h
  refine wpAny_Call_Name_kw (ld_glob I hg hm ?_ hdb)
  refine PySem.W.callWith_KW (h₀ := X.base) I.ok.mod.kin M.kp hall (thn (ha.run pos pins s σ H _ I h) ?_) hpl he
  rintro us s1 ⟨vs, H1, I1, r, q⟩
  refine thn (hkw.run pos pins s1 σ H1 _ I1 q) ?_
  rintro ws s2 ⟨zs, H2, I2, rz, l1, l2, q2⟩
  refine ⟨I2.kIn, ?_⟩
  rw [hks]
  exact run_makeNS M F hr hb (hx σ) (fun s3 e s' I3 c => hx σ pins _ s3 e s' I3 c) I2 r rz l1 l2 q2
theorem pe_makeNS0 (M : Mk X.K C f) (F : FnOk X.prog X.w X.K X.mg X.base CX k f fd ps sp) (hr : Room (k + 1) X.A) (hg : Gl X x) (hm : X.mg x = some (.ref C)) (hb : KBn X.K fd ps n ks g gV) (hx : ∀ σ, PassesAt CX X σ (E σ)) (hkw : PK X kws tk)
    (hall : (backToKw pos (keywordEach kws X.env)).all (·.1.isSome) = true := by rfl) (hks : (backToKw pos (keywordEach kws X.env)).filterMap (·.1) = ks := by rfl) (hdb : (x == ("__debug__" : Str)) = false := by decide)
    (hpl : ((backTo pos (starEach [] X.env)).any (·.1) || (backToKw pos (keywordEach kws X.env)).any (·.1.isNone)) = false := by rfl) :
    PE X (.Call (.Name x p) [] kws pos) (tMakeNS C n ks.length sp gV E tNil tk) := by
  constructor
  intro pins s σ H Q I h
  refine wpAny_Call_Name_kw (ld_glob I hg hm ?_ hdb)
  refine PySem.W.callWith_KW0 (h₀ := X.base) I.ok.mod.kin M.kp hall ?_ hpl
  refine thn (hkw.run pos pins s σ H _ I h) ?_
  rintro ws s2 ⟨zs, H2, I2, rz, l1, l2, q2⟩
  refine ⟨I2.kIn, ?_⟩
  rw [hks]
  exact run_makeNS (us := []) (vs := []) M F hr hb (hx σ) (fun s3 e s' I3 c => hx σ pins _ s3 e s' I3 c) I2 .nil rz l1 l2 q2
end
end DL

namespace DL
open PySem PySem.Spec PyProof.Rows L2

theorem iff2_elim {K : PySem.W.Frag} {mg : Str → Option Value} {α β : Type} {c : Prop} [Decidable c] {r : Res α} {R : Hp → List Addr → α → β → Prop} {W : XK} {F : Hp} {ρ : List Addr} {H : Hp} {C : Hp → List Addr → Sto → Hp → α → β → Prop}
    (h : AftK K mg R W (if c then r else .stuck) F ρ H C) : c ∧ AftK K mg R W r F ρ H C := iff_elim h
section
variable {X : Cx} {W : WX} {k n : Nat} {f C : Addr} {fd : FuncData} {ps ks : List Str} {S : Fn} {x m : Str} {p pos apos : Pos} {o e : Expr} {es : List Expr} {kws : List Keyword} {gD : List D → List D → List D} {ms mk : MA} {mo : ME}
theorem sk_nil : SK X W mNil [] := pk_nil.imp fun σ H Q ⟨F, ρ, Γ, M, g, st, h⟩ => AftK.ok h st Reps.nil
theorem sk_cons {nm : Option Str} {kpos : Pos} {me : ME} (ha : SE X W me e) (hr : SK X W mk kws) : SK X W (mCons me mk) (⟨nm, e, kpos⟩ :: kws) :=
  (pk_cons ha hr).imp fun σ H Q ⟨F, ρ, Γ, M, g, st, h⟩ => ⟨F, ρ, Γ, M, g, st, h.bind.imp fun F1 ρ1 M1 H1 d v gr st1 rv h1 => ⟨F1, ρ1, Γ, M1, g.grow gr, st1,
    h1.bind.imp fun F2 ρ2 M2 H2 e u gr2 st2 ru h2 => AftK.ok h2 st2 (.cons (rv.mono gr2.f gr2.r) ru)⟩⟩
theorem call_imp {K : PySem.W.Frag} {mg : Str → Option Value} {gV : List V → List V → List V} {σ : L2.St} {H : Hp} {Q : VK} {km : Nat} {ta tk : TA} (hta : ∀ σ H Q, tDs K mg W ms σ H Q → ta σ H Q) (htk : ∀ σ H Q, tDs K mg W mk σ H Q → tk σ H Q) (hsp : ∀ ds es, ds.length = n → es.length = km → (gD ds es).length = ps.length)
    (hg : ∀ F ρ ds vs es zs, Reps K mg F ρ ds vs → Reps K mg F ρ es zs → Reps K mg F ρ (gD ds es) (gV vs zs)) (h : tD K mg W (mCall n km S gD ms mk) σ H Q) : tCallNS n km (spD K mg ps.length S) gV (WE W) ta tk σ H Q := by
  obtain ⟨F, ρ, Γ, M, g, st, h⟩ := h
  refine hta _ _ _ ⟨F, ρ, Γ, M, g, st, h.bind.imp fun F1 ρ1 M1 H1 ds vs gr st1 rv h1 => htk _ _ _ ⟨F1, ρ1, Γ, M1, g.grow gr, st1, h1.bind.imp fun F2 ρ2 M2 H2 es zs gr2 st2 rz h2 => ?_⟩⟩
  obtain ⟨⟨l1, l2⟩, h2⟩ := iff2_elim h2
  have rv2 := rv.mono gr2.f gr2.r
  exact ⟨rv2.len.trans l1, rz.len.trans l2, F2, ρ2, M2, _, hg _ _ _ _ _ _ rv2 rz, hsp _ _ l1 l2, st2, h2⟩
theorem se_call (F : FnD X.prog X.w X.K X.mg X.base k f fd ps S) (hr : Room k X.A) (hg : Gl X x) (hm : X.mg x = some (.ref f)) (hk : PySem.W.keepIn X.K (.ref f) = true) (hb : KD X.K X.mg fd ps n ks gD) (hl : ∀ ds es, ds.length = n → es.length = ks.length → (gD ds es).length = ps.length) (tk : Takes X W) (ha : SA X W ms (e :: es)) (hkw : SK X W mk kws)
    (hall : (backToKw pos (keywordEach kws X.env)).all (·.1.isSome) = true := by rfl) (hks : (backToKw pos (keywordEach kws X.env)).filterMap (·.1) = ks := by rfl) (hdb : (x == ("__debug__" : Str)) = false := by decide) (he : starEach (e :: es) X.env = (false, eval e X.env) :: starEach es X.env := by rfl)
    (hpl : ((backTo pos (starEach (e :: es) X.env)).any (·.1) || (backToKw pos (keywordEach kws X.env)).any (·.1.isNone)) = false := by rfl) : SE X W (mCall n ks.length S gD ms mk) (.Call (.Name x p) (e :: es) kws pos) := by
  obtain ⟨g, gV, hb, hgd⟩ := hb.ex
  exact (pe_callNS F hr hg hm hk hb (passAt tk) ha hkw hall hks hdb he hpl).imp fun σ H Q h => call_imp (fun _ _ _ h => h) (fun _ _ _ h => h) hl hgd h
theorem mNil_imp {K : PySem.W.Frag} {mg : Str → Option Value} : ∀ σ H Q, tDs K mg W mNil σ H Q → tNil σ H Q := fun σ H Q ⟨F, ρ, Γ, M, g, st, h⟩ => AftK.ok h st Reps.nil
theorem se_call0 (F : FnD X.prog X.w X.K X.mg X.base k f fd ps S) (hr : Room k X.A) (hg : Gl X x) (hm : X.mg x = some (.ref f)) (hk : PySem.W.keepIn X.K (.ref f) = true) (hb : KD X.K X.mg fd ps n ks gD) (hl : ∀ ds es, ds.length = n → es.length = ks.length → (gD ds es).length = ps.length) (tk : Takes X W) (hkw : SK X W mk kws)
    (hall : (backToKw pos (keywordEach kws X.env)).all (·.1.isSome) = true := by rfl) (hks : (backToKw pos (keywordEach kws X.env)).filterMap (·.1) = ks := by rfl) (hdb : (x == ("__debug__" : Str)) = false := by decide)
    (hpl : ((backTo pos (starEach [] X.env)).any (·.1) || (backToKw pos (keywordEach kws X.env)).any (·.1.isNone)) = false := by rfl) : SE X W (mCall n ks.length S gD mNil mk) (.Call (.Name x p) [] kws pos) := by
  obtain ⟨g, gV, hb, hgd⟩ := hb.ex
  exact (pe_callNS0 F hr hg hm hk hb (passAt tk) hkw hall hks hdb hpl).imp fun σ H Q h => call_imp mNil_imp (fun _ _ _ h => h) hl hgd h

/-! ### instances -/
def clsOf (M : Sto) : D → Option Str
  | .obj C _ _ => some C
  | .ref n => match M[n]? with
    | some (.ins C _ _) => some C
    | _ => none
  | _ => none
def fldsOf (M : Sto) : D → Option (List Str × List D)
  | .obj _ ns ds => some (ns, ds)
  | .ref n => match M[n]? with
    | some (.ins _ ns ds) => some (ns, ds)
    | _ => none
  | _ => none
end
section
variable {K : PySem.W.Frag} {mg : Str → Option Value} {F : Hp} {ρ : List Addr} {M : Sto} {H : Hp}
theorem ins_at (st : StOk K mg F ρ M H) {d : D} {v : V} {Cn : Str} {ns : List Str} {ds : List D} (r : Rep K mg F ρ d v) (hc : clsOf M d = some Cn) (hf : fldsOf M d = some (ns, ds)) :
    ∃ a Ca dx vs, v = .ref a ∧ mg Cn = some (.ref Ca) ∧ H a = some (.ins Ca dx (ns.zip vs)) ∧ ns.length = ds.length ∧ Reps K mg F ρ ds vs := by
  cases d with
  | obj C' ns' ds' =>
    obtain ⟨a, Ca, dx, vs, e, m, q, l, rr⟩ := r.obj
    simp only [clsOf, fldsOf, Option.some.injEq, Prod.mk.injEq] at hc hf
    obtain ⟨rfl, rfl⟩ := hf
    subst hc
    exact ⟨a, Ca, dx, vs, e, m, st.sub _ _ q, l, rr⟩
  | ref n =>
    obtain ⟨a, e, q⟩ := r.ref
    simp only [clsOf, fldsOf] at hc hf
    split at hc
    · rename_i C' ns' ds' hx
      rw [hx] at hf
      simp only [Option.some.injEq, Prod.mk.injEq] at hc hf
      obtain ⟨rfl, rfl⟩ := hf
      subst hc
      obtain ⟨a', h1, h2⟩ := st.at_ n _ hx
      rw [q] at h1; cases h1
      obtain ⟨_, Ca, dx, vs, h3, h4, h5, h6⟩ := h2
      exact ⟨a, Ca, dx, vs, e, h3, h4, h5, h6⟩
    · cases hc
  | _ => simp [clsOf] at hc
theorem lookup_rep : ∀ {ns : List Str} {ds : List D} {vs : List V} {f : Str}, Reps K mg F ρ ds vs → ns.length = ds.length → match (ns.zip ds).lookup f with
    | some d => ∃ v, (ns.zip vs).lookup f = some v ∧ Rep K mg F ρ d v
    | none => (ns.zip vs).lookup f = none
  | [], [], _, _, r, _ => by rw [r.inv_nil]; rfl
  | n :: ns, d :: ds, _, f, r, hl => by
    obtain ⟨v, vs, rfl, a, b⟩ := r.inv_cons
    simp only [List.zip_cons_cons, List.lookup]
    by_cases e : f = n
    · have hb : (f == n) = true := beq_iff_eq.mpr e
      simp only [hb]
      exact ⟨v, rfl, a⟩
    · have hb : (f == n) = false := beq_eq_false_iff_ne.mpr e
      simp only [hb]
      exact lookup_rep b (by simpa using hl)
end
def fldGet (Cs : List Str) (f : Str) (d : D) (M : Sto) : Res D := match clsOf M d, fldsOf M d with
  | some C, some (ns, ds) => if Cs.contains C = true then optR ((ns.zip ds).lookup f) M else .stuck
  | _, _ => .stuck
def mFld (Cs : List Str) (f : Str) (m : ME) : ME := fun Γ M => (m Γ M).bind fun d M1 => fldGet Cs f d M1
/-- what of the text a class with such attributes has -/
def FldOk (K : PySem.W.Frag) (mg : Str → Option Value) (Cs : List Str) (f : Str) : Prop := ∀ C ∈ Cs, ∀ Ca, mg C = some (.ref Ca) → Cls K Ca ∧ NoAttr K Ca f
section
variable {X : Cx} {W : WX} {e value : Expr} {me mv : ME} {f : Str} {pos pos' : Pos} {Cs : List Str}
theorem se_fld (hc : FldOk X.K X.mg Cs f) (ha : SE X W me e) (hb : attributeBase e f X.env (eval e X.env) = eval e X.env) : SE X W (mFld Cs f me) (.Attribute e f pos) :=
  (pe_fld ha hb).imp fun σ H Q ⟨F, ρ, Γ, M, g, st, h⟩ => ⟨F, ρ, Γ, M, g, st, h.bind.imp fun F1 ρ1 M1 H1 d v gr st1 rv h1 => by
    unfold fldGet at h1
    split at h1
    · rename_i C ns ds h2 h3
      obtain ⟨hcs, h1⟩ := iff_elim h1
      obtain ⟨b, hb, h1⟩ := optR_elim h1
      obtain ⟨a, Ca, dx, vs, rfl, m, q, l, rr⟩ := ins_at st1 rv h2 h3
      have lk := lookup_rep (f := f) rr l
      rw [hb] at lk
      obtain ⟨u, hu, ru⟩ := lk
      obtain ⟨c1, c2⟩ := hc C (by simpa using hcs) Ca m
      exact ⟨a, Ca, dx, _, u, rfl, q, c1, c2, hu, AftK.ok h1 st1 ru⟩
    · exact h1.elim⟩
/-- an attribute stored -/
def putN (f : Str) (d : D) : List Str → List D → List Str × List D
  | n :: ns, e :: es => if n = f then (n :: ns, d :: es) else ((n :: (putN f d ns es).1), (e :: (putN f d ns es).2))
  | _, _ => ([f], [d])
def mSetF (Cs : List Str) (f : Str) (mo mv : ME) : MS := fun Γ M => (mv Γ M).toS Γ fun d M1 => (mo Γ M1).toS Γ fun o M2 => match o with
  | .ref n => match M2[n]? with
    | some (.ins C ns ds) => if Cs.contains C = true ∧ ns.length < 1000 then .nx Γ (M2.set n (.ins C (putN f d ns ds).1 (putN f d ns ds).2)) else .stuck
    | _ => .stuck
  | _ => .stuck
theorem putN_rep {K : PySem.W.Frag} {mg : Str → Option Value} {F : Hp} {ρ : List Addr} {d : D} {v : V} {f : Str} (r : Rep K mg F ρ d v) : ∀ {ns : List Str} {ds : List D} {vs : List V}, ns.length = ds.length → Reps K mg F ρ ds vs →
    ∃ us, putF f v (ns.zip vs) = (putN f d ns ds).1.zip us ∧ (putN f d ns ds).1.length = (putN f d ns ds).2.length ∧ Reps K mg F ρ (putN f d ns ds).2 us
  | [], [], _, _, rr => by
    rw [rr.inv_nil]
    exact ⟨[v], rfl, rfl, .cons r .nil⟩
  | n :: ns, e :: ds, _, hl, rr => by
    obtain ⟨u, us, rfl, a, b⟩ := rr.inv_cons
    rw [List.zip_cons_cons]
    unfold putN L2.putF
    by_cases h : n = f
    · rw [if_pos h, if_pos h]
      subst h
      exact ⟨v :: us, rfl, by simpa using hl, .cons r b⟩
    · rw [if_neg h, if_neg h]
      obtain ⟨ws, h1, h2, h3⟩ := putN_rep r (ns := ns) (ds := ds) (vs := us) (by simpa using hl) b
      exact ⟨u :: ws, by rw [h1]; rfl, by simpa using h2, .cons a h3⟩
theorem ss_setF {o : Expr} {mo : ME} (hc : FldOk X.K X.mg Cs f) (ha : SE X W mo o) (hv : SE X W mv value) (hs : swapsWith value (some (.Attribute o f pos')) pos.line X.env = pure false := by rfl) : SS X W (mSetF Cs f mo mv) (.Assign [.Attribute o f pos'] value pos) :=
  (ps_fld ha hv hs).imp fun D σ H ⟨F, ρ, Γ, M, g, st, h⟩ => ⟨F, ρ, Γ, M, g, st, (AftS.bind h g rfl).imp fun F1 ρ1 M1 H1 d v gr st1 rv h1 => ⟨F1, ρ1, Γ, M1, g.grow gr, st1,
    (AftS.bind h1 (g.grow gr) rfl).imp fun F2 ρ2 M2 H2 od ov gr2 st2 ro h2 => by
      split at h2
      · rename_i n
        split at h2
        · rename_i C ns ds hx
          split at h2
          · rename_i hcs
            obtain ⟨a, e, q⟩ := ro.ref
            subst e
            obtain ⟨a', h3, h4⟩ := st2.at_ n _ hx
            rw [q] at h3; cases h3
            obtain ⟨nF, Ca, dx, vs, m, hH, l, rr⟩ := h4
            obtain ⟨c1, c2⟩ := hc C (by simpa using hcs.1) Ca m
            obtain ⟨us, p1, p2, p3⟩ := putN_rep (f := f) (rv.mono gr2.f gr2.r) l rr
            have hvl : (ns.zip vs).length < 1000 := by rw [List.length_zip]; omega
            refine ⟨a, Ca, dx, _, rfl, hH, c1, c2, hvl, ?_⟩
            obtain ⟨st3, gr3⟩ := st2.write (ho := .ins Ca dx (putF f v (ns.zip vs))) (o' := .ins C (putN f d ns ds).1 (putN f d ns ds).2) q nF ⟨nF, Ca, dx, us, m, by rw [upd_same, p1], p2, p3⟩
            exact h2 _ _ _ _ gr3 st3 (((g.grow gr).grow gr2).grow gr3) rfl
          · exact h2.elim
        · exact h2.elim
      · exact h2.elim⟩⟩
end

/-! ### methods, makings -/
def mMeth (C : Str) (m : Str) (n k : Nat) (S : Fn) (g : List D → List D → List D) (mo : ME) (ms mk : MA) : ME := fun Γ M => (mo Γ M).bind fun d M0 => match clsOf M0 d, fldsOf M0 d with
  | some C', some (ns, fs) => if C' = C ∧ ((ns.zip fs).lookup m).isNone = true then (ms Γ M0).bind fun ds M1 => (mk Γ M1).bind fun es M2 => if ds.length + 1 = n ∧ es.length = k then S (g (d :: ds) es) M2 else .stuck else .stuck
  | _, _ => .stuck
section
variable {X : Cx} {W : WX} {k n : Nat} {f Ca : Addr} {fd : FuncData} {ps ks : List Str} {S : Fn} {x m C : Str} {p pos apos : Pos} {o e : Expr} {es : List Expr} {kws : List Keyword} {gD : List D → List D → List D} {ms mk : MA} {mo : ME}
theorem meth_imp {K : PySem.W.Frag} {mg : Str → Option Value} {gV : List V → List V → List V} {σ : L2.St} {H : Hp} {Q : VK} {km : Nat} {ta tk : TA} (hC : mg C = some (.ref Ca)) (hta : ∀ σ H Q, tDs K mg W ms σ H Q → ta σ H Q) (htk : ∀ σ H Q, tDs K mg W mk σ H Q → tk σ H Q) (hsp : ∀ ds es, ds.length = n → es.length = km → (gD ds es).length = ps.length)
    (hg : ∀ F ρ ds vs es zs, Reps K mg F ρ ds vs → Reps K mg F ρ es zs → Reps K mg F ρ (gD ds es) (gV vs zs)) (h : tD K mg W (mMeth C m n km S gD mo ms mk) σ H Q) : tMethNS Ca m n km (spD K mg ps.length S) gV (WE W) (tD K mg W mo) ta tk σ H Q := by
  obtain ⟨F, ρ, Γ, M, g, st, h⟩ := h
  refine ⟨F, ρ, Γ, M, g, st, h.bind.imp fun F0 ρ0 M0 H0 d v gr0 st0 rd h0 => ?_⟩
  split at h0
  · rename_i C' ns fs hc hf
    obtain ⟨hcc, h1⟩ := iff_elim h0
    obtain ⟨e, hn⟩ := hcc
    subst e
    obtain ⟨a, Ca', dx, vs, rfl, m', q, l, rr⟩ := ins_at st0 rd hc hf
    rw [hC] at m'; cases m'
    have lk := lookup_rep (f := m) rr l
    have hl : (ns.zip fs).lookup m = none := by simpa using hn
    rw [hl] at lk
    refine ⟨a, dx, _, rfl, q, lk, hta _ _ _ ⟨F0, ρ0, Γ, M0, g.grow gr0, st0, h1.bind.imp fun F1 ρ1 M1 H1 ds vs gr st1 rv h1 => htk _ _ _ ⟨F1, ρ1, Γ, M1, (g.grow gr0).grow gr, st1, h1.bind.imp fun F2 ρ2 M2 H2 es zs gr2 st2 rz h2 => ?_⟩⟩⟩
    obtain ⟨⟨l1, l2⟩, h2⟩ := iff_elim h2
    have rv2 := rv.mono gr2.f gr2.r
    have rd2 := (rd.mono gr.f gr.r).mono gr2.f gr2.r
    exact ⟨by rw [rv2.len]; exact l1, rz.len.trans l2, F2, ρ2, M2, _, hg _ _ _ _ _ _ (.cons rd2 rv2) rz, hsp _ _ (by simpa using l1) l2, st2, h2⟩
  · exact h0.elim
theorem se_meth {pl : Sem Bool} (hC : X.mg C = some (.ref Ca)) (c : Cls X.K Ca) (hm : Meth X.K Ca m f) (F : FnD X.prog X.w X.K X.mg X.base k f fd ps S) (hr : Room k X.A) (hb : KD X.K X.mg fd ps n ks gD) (hl : ∀ ds es, ds.length = n → es.length = ks.length → (gD ds es).length = ps.length) (tk : Takes X W) (ho : SE X W mo o) (ha : SA X W ms (e :: es)) (hkw : SK X W mk kws)
    (hall : (backToKw pos (keywordEach kws X.env)).all (·.1.isSome) = true := by rfl) (hks : (backToKw pos (keywordEach kws X.env)).filterMap (·.1) = ks := by rfl) (hst : starEach (e :: es) X.env = (false, eval e X.env) :: starEach es X.env := by rfl)
    (hpl : ((backTo pos (starEach (e :: es) X.env)).any (·.1) || (backToKw pos (keywordEach kws X.env)).any (·.1.isNone)) = false := by rfl)
    (ht : eval (.Call (.Attribute o m apos) (e :: es) kws pos) X.env = (do
      let ov ← eval o X.env
      standAt apos.atName
      let (f, first) ← holding [ov] (getMethod ov m pl)
      callWith pos f first (backTo pos (starEach (e :: es) X.env)) (backToKw pos (keywordEach kws X.env))) := by rfl) : SE X W (mMeth C m n ks.length S gD mo ms mk) (.Call (.Attribute o m apos) (e :: es) kws pos) := by
  obtain ⟨g, gV, hb, hgd⟩ := hb.ex
  exact (pe_methNS (pl := pl) ho c hm F hr hb (passAt tk) ha hkw hall hks hst hpl ht).imp fun σ H Q h => meth_imp hC (fun _ _ _ h => h) (fun _ _ _ h => h) hl hgd h
theorem se_meth0 {pl : Sem Bool} (hC : X.mg C = some (.ref Ca)) (c : Cls X.K Ca) (hm : Meth X.K Ca m f) (F : FnD X.prog X.w X.K X.mg X.base k f fd ps S) (hr : Room k X.A) (hb : KD X.K X.mg fd ps n ks gD) (hl : ∀ ds es, ds.length = n → es.length = ks.length → (gD ds es).length = ps.length) (tk : Takes X W) (ho : SE X W mo o) (hkw : SK X W mk kws)
    (hall : (backToKw pos (keywordEach kws X.env)).all (·.1.isSome) = true := by rfl) (hks : (backToKw pos (keywordEach kws X.env)).filterMap (·.1) = ks := by rfl)
    (hpl : ((backTo pos (starEach [] X.env)).any (·.1) || (backToKw pos (keywordEach kws X.env)).any (·.1.isNone)) = false := by rfl)
    (ht : eval (.Call (.Attribute o m apos) [] kws pos) X.env = (do
      let ov ← eval o X.env
      standAt apos.atName
      let (f, first) ← holding [ov] (getMethod ov m pl)
      callWith pos f first (backTo pos (starEach [] X.env)) (backToKw pos (keywordEach kws X.env))) := by rfl) : SE X W (mMeth C m n ks.length S gD mo mNil mk) (.Call (.Attribute o m apos) [] kws pos) := by
  obtain ⟨g, gV, hb, hgd⟩ := hb.ex
  exact (pe_methNS0 (pl := pl) ho c hm F hr hb (passAt tk) hkw hall hks hpl ht).imp fun σ H Q h => meth_imp hC mNil_imp (fun _ _ _ h => h) hl hgd h
theorem se_or2 {m1 m2 : ME} {e : Expr} (h1 : SE X W m1 e) (h2 : SE X W m2 e) (f : DEnv → Sto → Bool) : SE X W (fun Γ M => if f Γ M = true then m1 Γ M else m2 Γ M) e :=
  ⟨fun pins s σ H Q I ⟨F, ρ, Γ, M, g, st, h⟩ => by
    dsimp only at h
    by_cases hf : f Γ M = true
    · rw [if_pos hf] at h; exact h1.run pins s σ H Q I ⟨F, ρ, Γ, M, g, st, h⟩
    · rw [if_neg hf] at h; exact h2.run pins s σ H Q I ⟨F, ρ, Γ, M, g, st, h⟩⟩

/-- the new thing, known for good -/
def frz (n : Nat) (M : Sto) : Res D := match M[n]? with
  | some (.ins C ns ds) => if M.length = n + 1 ∧ lows n ds = true ∧ (M.take n).all (MO.low n) = true then .ok (.obj C ns ds) (M.take n) else .stuck
  | _ => .stuck
def mMake (C : Str) (n k : Nat) (S : Fn) (g : List D → List D → List D) (ms mk : MA) : ME := fun Γ M => (ms Γ M).bind fun ds M1 => (mk Γ M1).bind fun es M2 => if ds.length + 1 = n ∧ es.length = k then (S (g (.ref M2.length :: ds) es) (M2 ++ [.ins C [] []])).bind fun r M3 => match r with
    | .non => frz M2.length M3
    | _ => .stuck
  else .stuck
def mMakeM (C : Str) (n k : Nat) (S : Fn) (g : List D → List D → List D) (ms mk : MA) : ME := fun Γ M => (ms Γ M).bind fun ds M1 => (mk Γ M1).bind fun es M2 => if ds.length + 1 = n ∧ es.length = k then (S (g (.ref M2.length :: ds) es) (M2 ++ [.ins C [] []])).bind fun r M3 => match r with
    | .non => .ok (.ref M2.length) M3
    | _ => .stuck
  else .stuck
theorem make_imp {K : PySem.W.Frag} {mg : Str → Option Value} {gV : List V → List V → List V} {σ : L2.St} {H : Hp} {Q : VK} {km : Nat} {ta tk : TA} {fin : Nat → Sto → Res D} (hC : mg C = some (.ref Ca)) (hta : ∀ σ H Q, tDs K mg W ms σ H Q → ta σ H Q) (htk : ∀ σ H Q, tDs K mg W mk σ H Q → tk σ H Q) (hsp : ∀ ds es, ds.length = n → es.length = km → (gD ds es).length = ps.length)
    (hg : ∀ F ρ ds vs es zs, Reps K mg F ρ ds vs → Reps K mg F ρ es zs → Reps K mg F ρ (gD ds es) (gV vs zs))
    (hfin : ∀ {F ρ M H a H2 F' ρ' M' H'}, StOk K mg F ρ M H → H a = none → Grow F ρ H F (ρ ++ [a]) H2 → Grow F (ρ ++ [a]) H2 F' ρ' H' → StOk K mg F' ρ' M' H' → AftK K mg (Rep K mg) (WE W σ) (fin M.length M') F ρ H (fun _ _ _ H' _ v => Q v H') → Q (.ref a) H')
    (h : tD K mg W (fun Γ M => (ms Γ M).bind fun ds M1 => (mk Γ M1).bind fun es M2 => if ds.length + 1 = n ∧ es.length = km then (S (gD (.ref M2.length :: ds) es) (M2 ++ [.ins C [] []])).bind fun r M3 => match r with
      | .non => fin M2.length M3
      | _ => .stuck else .stuck) σ H Q) : tMakeNS Ca n km (spD K mg ps.length S) gV (WE W) ta tk σ H Q := by
  obtain ⟨F, ρ, Γ, M, g, st, h⟩ := h
  refine hta _ _ _ ⟨F, ρ, Γ, M, g, st, h.bind.imp fun F1 ρ1 M1 H1 ds vs gr st1 rv h1 => htk _ _ _ ⟨F1, ρ1, Γ, M1, g.grow gr, st1, h1.bind.imp fun F2 ρ2 M2 H2 es zs gr2 st2 rz h2 => ?_⟩⟩
  obtain ⟨⟨l1, l2⟩, h2⟩ := iff_elim h2
  have rv2 := rv.mono gr2.f gr2.r
  refine ⟨by rw [rv2.len]; exact l1, rz.len.trans l2, fun x dx nx ndx ne => ?_⟩
  obtain ⟨st3, gr3⟩ := st2.other (o := .own x) ndx
  have nx3 : upd H2 dx (.own x) x = none := by rw [upd_ne (Ne.symm ne)]; exact nx
  obtain ⟨st4, gr4⟩ := st3.new (ho := .ins Ca dx []) (o := .ins C [] []) nx3 ⟨st3.fnone nx3, Ca, dx, [], hC, upd_same, rfl, Reps.nil⟩
  have self : Rep K mg F2 (ρ2 ++ [x]) (.ref M2.length) (.ref x) := rep_ref (by rw [← st2.len, List.getElem?_append_right (Nat.le_refl _), Nat.sub_self]; rfl)
  have up := gr3.trans gr4
  refine ⟨F2, ρ2 ++ [x], M2 ++ [.ins C [] []], _, hg _ _ _ _ _ _ (.cons self (rv2.mono up.f up.r)) (rz.mono up.f up.r), hsp _ _ (by simpa using l1) l2, st4, ?_⟩
  cases hS : S (gD (.ref M2.length :: ds) es) (M2 ++ [.ins C [] []]) with
  | stuck => rw [hS] at h2; exact h2.elim
  | exc e M3 => rw [hS] at h2; exact fun F5 ρ5 H5 c od gr5 st5 rx => h2 _ _ _ _ _ (up.trans gr5) st5 rx
  | ok r M3 =>
    rw [hS] at h2
    simp only [Res.bind_ok] at h2
    intro F5 ρ5 H5 v gr5 st5 r5
    cases r with
    | non => exact ⟨r5.non, hfin st2 nx up gr5 st5 h2⟩
    | _ => exact h2.elim
theorem fin_frz {K : PySem.W.Frag} {mg : Str → Option Value} {W : XK} {Q : VK} {F : Hp} {ρ : List Addr} {M : Sto} {H : Hp} {a : Addr} {H2 F' : Hp} {ρ' : List Addr} {M' : Sto} {H' : Hp} (st : StOk K mg F ρ M H) (n : H a = none) (up : Grow F ρ H F (ρ ++ [a]) H2) (gr : Grow F (ρ ++ [a]) H2 F' ρ' H') (st' : StOk K mg F' ρ' M' H')
    (h : AftK K mg (Rep K mg) W (frz M.length M') F ρ H (fun _ _ _ H' _ v => Q v H')) : Q (.ref a) H' := by
  unfold frz at h
  split at h
  · rename_i C ns ds hx
    obtain ⟨⟨hl, b1, b2⟩, h⟩ := iff_elim h
    obtain ⟨a', h3, h4⟩ := st'.at_ _ _ hx
    have ha : ρ'[M.length]? = some a := gr.r.get (by rw [← st.len, List.getElem?_append_right (Nat.le_refl _), Nat.sub_self]; rfl)
    rw [ha] at h3; cases h3
    obtain ⟨nF, Ca, dx, vs, m, hH, l, rr⟩ := h4
    have tk : ρ'.take M.length = ρ := by
      obtain ⟨t, e⟩ := gr.r
      rw [e, ← st.len, List.append_assoc, List.take_left]
    have st2 := st'.shrink b2
    have rr2 := rr.shrink b1
    rw [tk] at st2 rr2
    obtain ⟨st3, s3⟩ := st2.freeze (o := .ins Ca dx (ns.zip vs)) hH nF (st.notin n) trivial
    have g2 := up.trans gr
    refine h _ _ _ _ ⟨g2.f.trans s3, Pre.refl _, fun _ z => .inl z, g2.keep, fun b o e => ?_⟩ st3 (rep_obj m upd_same l (rr2.mono s3 (Pre.refl _)))
    by_cases q : b = a
    · subst q; exact .inr (.inl n)
    · rw [upd_ne q] at e; exact g2.ff b o e
  · exact h.elim
theorem fin_new {K : PySem.W.Frag} {mg : Str → Option Value} {W : XK} {Q : VK} {F : Hp} {ρ : List Addr} {M : Sto} {H : Hp} {a : Addr} {H2 F' : Hp} {ρ' : List Addr} {M' : Sto} {H' : Hp} (st : StOk K mg F ρ M H) (n : H a = none) (up : Grow F ρ H F (ρ ++ [a]) H2) (gr : Grow F (ρ ++ [a]) H2 F' ρ' H') (st' : StOk K mg F' ρ' M' H')
    (h : AftK K mg (Rep K mg) W (.ok (.ref M.length) M') F ρ H (fun _ _ _ H' _ v => Q v H')) : Q (.ref a) H' :=
  h _ _ _ _ (up.trans gr) st' (rep_ref (gr.r.get (by rw [← st.len, List.getElem?_append_right (Nat.le_refl _), Nat.sub_self]; rfl)))
theorem se_make (hC : X.mg C = some (.ref Ca)) (Mc : Mk X.K Ca f) (F : FnD X.prog X.w X.K X.mg X.base k f fd ps S) (hr : Room (k + 1) X.A) (hg : Gl X C) (hb : KD X.K X.mg fd ps n ks gD) (hl : ∀ ds es, ds.length = n → es.length = ks.length → (gD ds es).length = ps.length) (tk : Takes X W) (ha : SA X W ms (e :: es)) (hkw : SK X W mk kws)
    (hall : (backToKw pos (keywordEach kws X.env)).all (·.1.isSome) = true := by rfl) (hks : (backToKw pos (keywordEach kws X.env)).filterMap (·.1) = ks := by rfl) (hdb : (C == ("__debug__" : Str)) = false := by decide) (he : starEach (e :: es) X.env = (false, eval e X.env) :: starEach es X.env := by rfl)
    (hpl : ((backTo pos (starEach (e :: es) X.env)).any (·.1) || (backToKw pos (keywordEach kws X.env)).any (·.1.isNone)) = false := by rfl) : SE X W (mMake C n ks.length S gD ms mk) (.Call (.Name C p) (e :: es) kws pos) := by
  obtain ⟨g, gV, hb, hgd⟩ := hb.ex
  exact (pe_makeNS Mc F hr hg hC hb (passAt tk) ha hkw hall hks hdb he hpl).imp fun σ H Q h => make_imp (fin := frz) hC (fun _ _ _ h => h) (fun _ _ _ h => h) hl hgd fin_frz h
theorem se_make0 (hC : X.mg C = some (.ref Ca)) (Mc : Mk X.K Ca f) (F : FnD X.prog X.w X.K X.mg X.base k f fd ps S) (hr : Room (k + 1) X.A) (hg : Gl X C) (hb : KD X.K X.mg fd ps n ks gD) (hl : ∀ ds es, ds.length = n → es.length = ks.length → (gD ds es).length = ps.length) (tk : Takes X W) (hkw : SK X W mk kws)
    (hall : (backToKw pos (keywordEach kws X.env)).all (·.1.isSome) = true := by rfl) (hks : (backToKw pos (keywordEach kws X.env)).filterMap (·.1) = ks := by rfl) (hdb : (C == ("__debug__" : Str)) = false := by decide)
    (hpl : ((backTo pos (starEach [] X.env)).any (·.1) || (backToKw pos (keywordEach kws X.env)).any (·.1.isNone)) = false := by rfl) : SE X W (mMake C n ks.length S gD mNil mk) (.Call (.Name C p) [] kws pos) := by
  obtain ⟨g, gV, hb, hgd⟩ := hb.ex
  exact (pe_makeNS0 Mc F hr hg hC hb (passAt tk) hkw hall hks hdb hpl).imp fun σ H Q h => make_imp (fin := frz) hC mNil_imp (fun _ _ _ h => h) hl hgd fin_frz h
theorem se_makeM (hC : X.mg C = some (.ref Ca)) (Mc : Mk X.K Ca f) (F : FnD X.prog X.w X.K X.mg X.base k f fd ps S) (hr : Room (k + 1) X.A) (hg : Gl X C) (hb : KD X.K X.mg fd ps n ks gD) (hl : ∀ ds es, ds.length = n → es.length = ks.length → (gD ds es).length = ps.length) (tk : Takes X W) (ha : SA X W ms (e :: es)) (hkw : SK X W mk kws)
    (hall : (backToKw pos (keywordEach kws X.env)).all (·.1.isSome) = true := by rfl) (hks : (backToKw pos (keywordEach kws X.env)).filterMap (·.1) = ks := by rfl) (hdb : (C == ("__debug__" : Str)) = false := by decide) (he : starEach (e :: es) X.env = (false, eval e X.env) :: starEach es X.env := by rfl)
    (hpl : ((backTo pos (starEach (e :: es) X.env)).any (·.1) || (backToKw pos (keywordEach kws X.env)).any (·.1.isNone)) = false := by rfl) : SE X W (mMakeM C n ks.length S gD ms mk) (.Call (.Name C p) (e :: es) kws pos) := by
  obtain ⟨g, gV, hb, hgd⟩ := hb.ex
  exact (pe_makeNS Mc F hr hg hC hb (passAt tk) ha hkw hall hks hdb he hpl).imp fun σ H Q h => make_imp (fin := fun n M => .ok (.ref n) M) hC (fun _ _ _ h => h) (fun _ _ _ h => h) hl hgd fin_new h
theorem se_makeM0 (hC : X.mg C = some (.ref Ca)) (Mc : Mk X.K Ca f) (F : FnD X.prog X.w X.K X.mg X.base k f fd ps S) (hr : Room (k + 1) X.A) (hg : Gl X C) (hb : KD X.K X.mg fd ps n ks gD) (hl : ∀ ds es, ds.length = n → es.length = ks.length → (gD ds es).length = ps.length) (tk : Takes X W) (hkw : SK X W mk kws)
    (hall : (backToKw pos (keywordEach kws X.env)).all (·.1.isSome) = true := by rfl) (hks : (backToKw pos (keywordEach kws X.env)).filterMap (·.1) = ks := by rfl) (hdb : (C == ("__debug__" : Str)) = false := by decide)
    (hpl : ((backTo pos (starEach [] X.env)).any (·.1) || (backToKw pos (keywordEach kws X.env)).any (·.1.isNone)) = false := by rfl) : SE X W (mMakeM C n ks.length S gD mNil mk) (.Call (.Name C p) [] kws pos) := by
  obtain ⟨g, gV, hb, hgd⟩ := hb.ex
  exact (pe_makeNS0 Mc F hr hg hC hb (passAt tk) hkw hall hks hdb hpl).imp fun σ H Q h => make_imp (fin := fun n M => .ok (.ref n) M) hC mNil_imp (fun _ _ _ h => h) hl hgd fin_new h
end
end DL

namespace DL
open PySem PySem.Spec PyProof.Rows L2

/-! ### built-ins by name -/
def mB (f : List D → Sto → Res D) (ms : MA) : ME := fun Γ M => (ms Γ M).bind fun ds M1 => f ds M1
section
variable {X : Cx} {W : WX} {x : Str} {p pos : Pos} {e : Expr} {es : List Expr} {ms : MA} {id T : String} {r : List V → Hp → VK → Prop} {f : List D → Sto → Res D}
theorem bimp (hs : CallS X.K X.mg r f) {e : Expr} {t : TA → TE} (h : PE X e (tCB r (tDs X.K X.mg W ms))) : SE X W (mB f ms) e :=
  h.imp fun σ H Q ⟨F, ρ, Γ, M, g, st, h⟩ => ⟨F, ρ, Γ, M, g, st, h.bind.imp fun F1 ρ1 M1 H1 ds vs gr st1 rv h1 => hs _ _ _ _ _ _ _ _ st1 rv h1⟩
theorem se_B (hc : CallR X (.builtin id) r) (hs : CallS X.K X.mg r f) (hg : Gl X x) (hm : X.mg x = none) (hv : bootBuiltins x = some (.builtin id)) (ha : SA X W ms (e :: es)) (hn : x ≠ "__name__" := by decide) (hdb : (x == ("__debug__" : Str)) = false := by decide)
    (he : starEach (e :: es) X.env = (false, eval e X.env) :: starEach es X.env := by rfl) (hpl : (backTo pos (starEach es X.env)).any (·.1) = false := by rfl) : SE X W (mB f ms) (.Call (.Name x p) (e :: es) [] pos) :=
  bimp hs (t := fun _ => fun _ _ _ => True) (pe_callB hc hg hm hv ha hn hdb he hpl)
theorem se_T (hc : CallR X (.type T) r) (hs : CallS X.K X.mg r f) (hg : Gl X x) (hm : X.mg x = none) (hv : bootBuiltins x = some (.type T)) (ha : SA X W ms (e :: es)) (hn : x ≠ "__name__" := by decide) (hdb : (x == ("__debug__" : Str)) = false := by decide)
    (he : starEach (e :: es) X.env = (false, eval e X.env) :: starEach es X.env := by rfl) (hpl : (backTo pos (starEach es X.env)).any (·.1) = false := by rfl) : SE X W (mB f ms) (.Call (.Name x p) (e :: es) [] pos) :=
  bimp hs (t := fun _ => fun _ _ _ => True) (pe_callTy hc hg hm hv ha hn hdb he hpl)
end
section
variable {K : PySem.W.Frag} {mg : Str → Option Value} {F : Hp} {ρ : List Addr}
theorem reps1 {d : D} {vs : List V} (h : Reps K mg F ρ [d] vs) : ∃ v, vs = [v] ∧ Rep K mg F ρ d v := by
  obtain ⟨v, r, rfl, a, b⟩ := h.inv_cons
  rw [b.inv_nil]
  exact ⟨v, rfl, a⟩
theorem reps2 {d e : D} {vs : List V} (h : Reps K mg F ρ [d, e] vs) : ∃ v u, vs = [v, u] ∧ Rep K mg F ρ d v ∧ Rep K mg F ρ e u := by
  obtain ⟨v, r, rfl, a, b⟩ := h.inv_cons
  obtain ⟨u, rfl, c⟩ := reps1 b
  exact ⟨v, u, rfl, a, c⟩
def lenOf (M : Sto) : D → Option Nat
  | .str x => if x.length ≤ 16777216 then some x.length else none
  | d => (seqOf M d).map List.length
def fLen (ds : List D) (M : Sto) : Res D := match ds with
  | [d] => match lenOf M d with
    | some n => .ok (.int n) M
    | none => .stuck
  | _ => .stuck
theorem cs_len : CallS K mg (fun xs H Q => ∃ x n, xs = [x] ∧ LenV K x H n ∧ Q (.int n) H) fLen := by
  intro F ρ M H ds vs W Q st r h
  unfold fLen at h
  split at h
  · rename_i d
    obtain ⟨v, rfl, rv⟩ := reps1 r
    split at h
    · rename_i n hl
      refine ⟨v, n, rfl, ?_, AftK.ok h st (rep_int _)⟩
      have sq : ∀ xs, seqOf M d = some xs → n = xs.length → LenV K v H n := fun xs hs hn => by
        obtain ⟨a, us, rfl, rr, _, q⟩ := seqOf_at st rv hs
        rcases q with ⟨_, q⟩ | ⟨_, q⟩
        · exact .inr ⟨us, q, by rw [hn, rr.len]⟩
        · exact .inl ⟨us, q, by rw [hn, rr.len]⟩
      cases d with
      | str x =>
        rw [rv.str]
        simp only [lenOf] at hl
        split at hl
        · rename_i hz
          exact ⟨by rw [sizeLine_eq]; exact hz, (Option.some.inj hl).symm⟩
        · cases hl
      | _ =>
        simp only [lenOf, Option.map_eq_some_iff] at hl
        obtain ⟨xs, h1, h2⟩ := hl
        exact sq xs h1 h2.symm
    · exact h.elim
  · exact h.elim
def intsOf : List D → Option (List Int)
  | [] => some []
  | .int i :: ds => (intsOf ds).map (i :: ·)
  | _ => none
theorem ints_rep : ∀ {ds : List D} {ns : List Int} {vs : List V}, intsOf ds = some ns → Reps K mg F ρ ds vs → vs = ns.map V.int
  | [], _, _, h, r => by simp [intsOf] at h; subst h; rw [r.inv_nil]; rfl
  | d :: ds, ns, _, h, r => by
    obtain ⟨v, vs, rfl, a, b⟩ := r.inv_cons
    cases d with
    | int i =>
      simp only [intsOf, Option.map_eq_some_iff] at h
      obtain ⟨ms, h1, rfl⟩ := h
      rw [a.int, ints_rep h1 b]
      rfl
    | _ => simp [intsOf] at h
@[simp] theorem intsOf_map (ns : List Int) : intsOf (ns.map D.int) = some ns := by
  induction ns with
  | nil => rfl
  | cons n ns ih => simp [intsOf, ih]
def fSum (ds : List D) (M : Sto) : Res D := match ds with
  | [d] => if isTup d = true then .stuck else match (seqOf M d).bind intsOf with
    | some ns => .ok (.int ns.sum) M
    | none => .stuck
  | _ => .stuck
theorem cs_sum : CallS K mg (rSum K) fSum := by
  intro F ρ M H ds vs W Q st r h
  unfold fSum at h
  split at h
  · rename_i d
    obtain ⟨v, rfl, rv⟩ := reps1 r
    split at h
    · exact h.elim
    · rename_i ht
      split at h
      · rename_i ns hn
        cases hs : seqOf M d with
        | none => rw [hs] at hn; cases hn
        | some xs =>
          rw [hs] at hn
          obtain ⟨a, us, rfl, rr, _, q⟩ := seqOf_at st rv hs
          rcases q with ⟨h1, _⟩ | ⟨_, q⟩
          · exact absurd h1 ht
          · rw [ints_rep hn rr] at q
            exact ⟨a, ns, rfl, q, AftK.ok h st (rep_int _)⟩
      · exact h.elim
  · exact h.elim
def fAbs (ds : List D) (M : Sto) : Res D := match ds with
  | [.int i] => .ok (.int (if i < 0 then -i else i)) M
  | _ => .stuck
theorem cs_abs : CallS K mg (fun xs H Q => ∃ i, xs = [.int i] ∧ Q (.int (if i < 0 then -i else i)) H) fAbs := by
  intro F ρ M H ds vs W Q st r h
  unfold fAbs at h
  split at h
  · obtain ⟨v, rfl, rv⟩ := reps1 r
    rw [rv.int]
    exact ⟨_, rfl, AftK.ok h st (rep_int _)⟩
  · exact h.elim
def fMax2 (ds : List D) (M : Sto) : Res D := match ds with
  | [.int i, .int j] => .ok (.int (if j > i then j else i)) M
  | _ => .stuck
theorem cs_max2 : CallS K mg (fun xs H Q => ∃ i j, xs = [.int i, .int j] ∧ Q (.int (if j > i then j else i)) H) fMax2 := by
  intro F ρ M H ds vs W Q st r h
  unfold fMax2 at h
  split at h
  · obtain ⟨v, u, rfl, rv, ru⟩ := reps2 r
    rw [rv.int, ru.int]
    exact ⟨_, _, rfl, AftK.ok h st (rep_int _)⟩
  · exact h.elim
def fMin2 (ds : List D) (M : Sto) : Res D := match ds with
  | [.int i, .int j] => .ok (.int (if j < i then j else i)) M
  | _ => .stuck
theorem cs_min2 : CallS K mg (fun xs H Q => ∃ i j, xs = [.int i, .int j] ∧ Q (.int (if j < i then j else i)) H) fMin2 := by
  intro F ρ M H ds vs W Q st r h
  unfold fMin2 at h
  split at h
  · obtain ⟨v, u, rfl, rv, ru⟩ := reps2 r
    rw [rv.int, ru.int]
    exact ⟨_, _, rfl, AftK.ok h st (rep_int _)⟩
  · exact h.elim
def fInt (ds : List D) (M : Sto) : Res D := match ds with
  | [.int i] => .ok (.int i) M
  | [.bl k] => .ok (.int (if k then 1 else 0)) M
  | _ => .stuck
theorem cs_int : CallS K mg (fun xs H Q => (∃ i, xs = [.int i] ∧ Q (.int i) H) ∨ ∃ k, xs = [.bl k] ∧ Q (.int (if k then 1 else 0)) H) fInt := by
  intro F ρ M H ds vs W Q st r h
  unfold fInt at h
  split at h
  · obtain ⟨v, rfl, rv⟩ := reps1 r
    rw [rv.int]
    exact .inl ⟨_, rfl, AftK.ok h st (rep_int _)⟩
  · obtain ⟨v, rfl, rv⟩ := reps1 r
    rw [rv.bl]
    exact .inr ⟨_, rfl, AftK.ok h st (rep_int _)⟩
  · exact h.elim
def fTuple (ds : List D) (M : Sto) : Res D := match ds with
  | [d] => optR ((seqOf M d).map .tup) M
  | _ => .stuck
theorem cs_tuple : CallS K mg (fun xs H Q => ∃ p ys, xs = [.ref p] ∧ ((SqL K H p ys ∧ ∀ l, H l = none → Q (.ref l) (upd H l (.tup ys))) ∨ (SqT K H p ys ∧ Q (.ref p) H))) fTuple := by
  intro F ρ M H ds vs W Q st r h
  unfold fTuple at h
  split at h
  · rename_i d
    obtain ⟨v, rfl, rv⟩ := reps1 r
    obtain ⟨b, hb, hq⟩ := optR_elim h
    clear h
    simp only [Option.map_eq_some_iff] at hb
    obtain ⟨xs, hs, rfl⟩ := hb
    cases d with
    | tup ys =>
      have e : xs = ys := by simpa [seqOf] using hs.symm
      subst e
      obtain ⟨a, us, rfl, q, rr⟩ := rv.tupF
      exact ⟨a, us, rfl, .inr ⟨st.sub.sqT (SqT.of q), AftK.ok hq st (rep_tup q rr)⟩⟩
    | _ =>
      obtain ⟨a, us, rfl, rr, z, q⟩ := seqOf_at st rv hs
      rcases q with ⟨h1, _⟩ | ⟨_, q⟩
      · simp [isTup] at h1
      · refine ⟨a, us, rfl, .inl ⟨q, fun l n => ?_⟩⟩
        obtain ⟨st2, gr2⟩ := st.lay (o := .tup us) n z
        exact hq _ _ _ _ gr2 st2 (rep_tup upd_same (rr.mono gr2.f gr2.r))
  · exact h.elim
def fList (ds : List D) (M : Sto) : Res D := match ds with
  | [d] => optR ((seqOf M d).map .lst) M
  | _ => .stuck
theorem cs_list : CallS K mg (fun xs H Q => ∃ p ys, xs = [.ref p] ∧ (SqL K H p ys ∨ SqT K H p ys) ∧ ∀ l, H l = none → Q (.ref l) (upd H l (.lst ys))) fList := by
  intro F ρ M H ds vs W Q st r h
  unfold fList at h
  split at h
  · rename_i d
    obtain ⟨v, rfl, rv⟩ := reps1 r
    obtain ⟨b, hb, h⟩ := optR_elim h
    simp only [Option.map_eq_some_iff] at hb
    obtain ⟨xs, hs, rfl⟩ := hb
    obtain ⟨a, us, rfl, rr, z, q⟩ := seqOf_at st rv hs
    refine ⟨a, us, rfl, ?_, fun l n => ?_⟩
    · rcases q with ⟨_, q⟩ | ⟨_, q⟩
      · exact .inr q
      · exact .inl q
    · obtain ⟨st2, gr2⟩ := st.lay (o := .lst us) n z
      exact h _ _ _ _ gr2 st2 (rep_lst upd_same (rr.mono gr2.f gr2.r))
  · exact h.elim
/-- .. that may be changed -/
def fListM (ds : List D) (M : Sto) : Res D := match ds with
  | [d] => match seqOf M d with
    | some xs => .ok (.ref M.length) (M ++ [.lst xs])
    | none => .stuck
  | _ => .stuck
theorem cs_listM : CallS K mg (fun xs H Q => ∃ p ys, xs = [.ref p] ∧ (SqL K H p ys ∨ SqT K H p ys) ∧ ∀ l, H l = none → Q (.ref l) (upd H l (.lst ys))) fListM := by
  intro F ρ M H ds vs W Q st r h
  unfold fListM at h
  split at h
  · rename_i d
    obtain ⟨v, rfl, rv⟩ := reps1 r
    split at h
    · rename_i xs hs
      obtain ⟨a, us, rfl, rr, z, q⟩ := seqOf_at st rv hs
      refine ⟨a, us, rfl, ?_, fun l n => ?_⟩
      · rcases q with ⟨_, q⟩ | ⟨_, q⟩
        · exact .inr q
        · exact .inl q
      · obtain ⟨st2, gr2, r2⟩ := new_lst st n rr z
        exact h _ _ _ _ gr2 st2 r2
    · exact h.elim
  · exact h.elim
def fReprI (ds : List D) (M : Sto) : Res D := match ds with
  | [.int i] => if i.natAbs.log2 < 1920 then .ok (.str (toString i)) M else .stuck
  | _ => .stuck
theorem cs_reprI : CallS K mg (fun xs H Q => ∃ i, xs = [.int i] ∧ i.natAbs.log2 < 1920 ∧ Q (.str (toString i)) H) fReprI := by
  intro F ρ M H ds vs W Q st r h
  unfold fReprI at h
  split at h
  · obtain ⟨hz, h⟩ := iff_elim h
    obtain ⟨v, rfl, rv⟩ := reps1 r
    rw [rv.int]
    exact ⟨_, rfl, hz, AftK.ok h st (rep_str _)⟩
  · exact h.elim
end

/-! ### isinstance of built-in classes -/
def tyOf (M : Sto) : D → Option String
  | .non => some "NoneType"
  | .bl _ => some "bool"
  | .int _ => some "int"
  | .str _ => some "str"
  | .lst _ => some "list"
  | .ref n => match M[n]? with
    | some (.lst _) => some "list"
    | _ => none
  | .tup _ => some "tuple"
  | .scr _ => some "list"
  | .obj _ _ _ => none
/-- b: what isinstance answers of the type t and the class T -/
def isiB (t T : String) : Bool := t == T || (t == "bool" && T == "int") || T == "object"
def mIsi (T : String) (m : ME) : MT := fun Γ M => (m Γ M).bind fun d M1 => match tyOf M1 d with
  | some t => .ok (isiB t T) M1
  | none => .stuck
theorem ty_rep {K : PySem.W.Frag} {mg : Str → Option Value} {F : Hp} {ρ : List Addr} {M : Sto} {H : Hp} {d : D} {v : V} {t : String} (st : StOk K mg F ρ M H) (r : Rep K mg F ρ d v) (h : tyOf M d = some t) : TyX K H v (.type t) := by
  cases d with
  | non => rw [r.non]; simp [tyOf] at h; subst h; exact .base .non
  | bl b => rw [r.bl]; simp [tyOf] at h; subst h; exact .base (.bl _)
  | int b => rw [r.int]; simp [tyOf] at h; subst h; exact .base (.int _)
  | str b => rw [r.str]; simp [tyOf] at h; subst h; exact .base (.str _)
  | lst ds =>
    obtain ⟨a, vs, rfl, q, _⟩ := r.lst
    simp [tyOf] at h; subst h
    exact .base (.lst (st.sub _ _ q))
  | ref n =>
    simp only [tyOf] at h
    split at h
    · rename_i ds hx
      obtain ⟨a, vs, rfl, q, _⟩ := lstOf_at (ds := ds) st r (by simp [lstOf, hx])
      simp at h; subst h
      exact .base (.lst q)
    · cases h
  | tup ds =>
    obtain ⟨a, vs, rfl, q, _⟩ := r.tup
    simp [tyOf] at h; subst h
    rcases st.sub.sqT q with (q | ⟨ob, q⟩) | ⟨o, its, n, q, c, _⟩
    · exact .base (.tup q)
    · exact .fTuple q
    · exact .kTuple q c
  | scr ds =>
    obtain ⟨a, vs, rfl, q, _⟩ := r.scr
    simp [tyOf] at h; subst h
    rcases st.sub.sqL q with (q | ⟨ob, q⟩) | ⟨o, its, n, q, c, _⟩
    · exact .base (.lst q)
    · exact .base (.frz q)
    · exact .kList q c
  | obj _ _ _ => simp [tyOf] at h
/-- isinstance's answers of the types and one class -/
def IsiOk (K : PySem.W.Frag) (T : String) : Prop := ∀ t ∈ ["NoneType", "bool", "int", "str", "list", "tuple"], PySem.W.kitOne K (.type t) (.type T) = some (isiB t T)
theorem ty_mem {M : Sto} {d : D} {t : String} (h : tyOf M d = some t) : t ∈ ["NoneType", "bool", "int", "str", "list", "tuple"] := by
  cases d with
  | ref n =>
    simp only [tyOf] at h
    split at h
    · simp at h; subst h; decide
    · cases h
  | obj _ _ _ => simp [tyOf] at h
  | _ => simp [tyOf] at h; subst h; decide
section
variable {X : Cx} {W : WX} {p p2 pos : Pos} {e : Expr} {m : ME} {T : String} {Tn : Str}
theorem isi_pe (hk : IsiOk X.K T) (hg : Gl X "isinstance") (hm : X.mg "isinstance" = none) (hg2 : Gl X Tn) (hm2 : X.mg Tn = none) (hv2 : bootBuiltins Tn = some (.type T)) (he : SE X W m e) (hn2 : Tn ≠ "__name__" := by decide) (hd2 : (Tn == ("__debug__" : Str)) = false := by decide)
    (hs : starEach [e, .Name Tn p2] X.env = (false, eval e X.env) :: starEach [.Name Tn p2] X.env := by rfl) (hs2 : starEach [.Name Tn p2] X.env = (false, eval (.Name Tn p2) X.env) :: starEach [] X.env := by rfl) (hpl : (backTo pos (starEach [.Name Tn p2] X.env)).any (·.1) = false := by rfl) :
    SE X W (mOfT (mIsi T m)) (.Call (.Name "isinstance" p) [e, .Name Tn p2] [] pos) :=
  (pe_callB call_isi hg hm PyProof.Rows.boot_isinstance (pa_cons he (pa_cons (pe_bltn (v := .ty T) hg2 hm2 hv2 rfl hn2 hd2) pa_nil hs2) hs) (by decide) (by decide) hs hpl).imp fun σ H Q ⟨F, ρ, Γ, M, g, st, h⟩ => by
    unfold mOfT mIsi at h
    cases hx : m Γ M with
    | stuck => rw [hx] at h; exact h.elim
    | exc x M1 => rw [hx] at h; exact ⟨F, ρ, Γ, M, g, st, by rw [hx]; exact h⟩
    | ok d M1 =>
      rw [hx] at h
      simp only [Res.bind_ok] at h
      refine ⟨F, ρ, Γ, M, g, st, ?_⟩
      rw [hx]
      intro F1 ρ1 H1 v gr st1 rv
      have h := AftK.grow h gr
      cases ht : tyOf M1 d with
      | none => rw [ht] at h; exact h.elim
      | some t =>
        rw [ht] at h
        exact ⟨v, .ty T, .type t, .type T, isiB t T, rfl, .ty T, ty_rep st1 rv ht, hk t (ty_mem ht), AftK.ok h st1 (rep_bl _)⟩
theorem isi_pt (hk : IsiOk X.K T) (hg : Gl X "isinstance") (hm : X.mg "isinstance" = none) (hg2 : Gl X Tn) (hm2 : X.mg Tn = none) (hv2 : bootBuiltins Tn = some (.type T)) (he : SE X W m e) (hn2 : Tn ≠ "__name__" := by decide) (hd2 : (Tn == ("__debug__" : Str)) = false := by decide)
    (hs : starEach [e, .Name Tn p2] X.env = (false, eval e X.env) :: starEach [.Name Tn p2] X.env := by rfl) (hs2 : starEach [.Name Tn p2] X.env = (false, eval (.Name Tn p2) X.env) :: starEach [] X.env := by rfl) (hpl : (backTo pos (starEach [.Name Tn p2] X.env)).any (·.1) = false := by rfl) :
    ST X W (mIsi T m) (.Call (.Name "isinstance" p) [e, .Name Tn p2] [] pos) :=
  (pt_val (isi_pe (p := p) (p2 := p2) (pos := pos) hk hg hm hg2 hm2 hv2 he hn2 hd2 hs hs2 hpl)).imp fun σ H Q ⟨F, ρ, Γ, M, g, st, h⟩ => ⟨F, ρ, Γ, M, g, st, by
    unfold mOfT
    cases hx : mIsi T m Γ M with
    | stuck => rw [hx] at h; exact h.elim
    | exc x M1 => rw [hx] at h; exact h
    | ok b M1 =>
      rw [hx] at h
      exact fun F1 ρ1 H1 v gr st1 rv => ⟨b, rv.bl, h _ _ _ () gr st1 trivial⟩⟩
end

/-! ### lists that change -/
def fAppend (d : D) (ds : List D) (M : Sto) : Res D := match d, ds with
  | .ref n, [e] => match M[n]? with
    | some (.lst xs) => if xs.length < 16777216 then .ok .non (M.set n (.lst (xs ++ [e]))) else .stuck
    | _ => .stuck
  | _, _ => .stuck
def mMt (pre : Sto → D → Bool) (f : D → List D → Sto → Res D) (mo : ME) (ms : MA) : ME := fun Γ M => (mo Γ M).bind fun d M1 => if pre M1 d = true then (ms Γ M1).bind fun ds M2 => f d ds M2 else .stuck
def preL (M : Sto) (d : D) : Bool := (lstOf M d).isSome
def preS (_ : Sto) (d : D) : Bool := match d with
  | .str _ => true
  | _ => false
def MtS (K : PySem.W.Frag) (mg : Str → Option Value) (T : String) (pre : Sto → D → Bool) (r : V → List V → Hp → VK → Prop) (f : D → List D → Sto → Res D) : Prop :=
  (∀ F ρ M H d v, StOk K mg F ρ M H → Rep K mg F ρ d v → pre M d = true → tyV K T v H) ∧
  ∀ F ρ M H d v ds vs (W : XK) Q, StOk K mg F ρ M H → Rep K mg F ρ d v → Reps K mg F ρ ds vs → AftK K mg (Rep K mg) W (f d ds M) F ρ H (fun _ _ _ H' _ v => Q v H') → r v vs H Q
theorem preL_ty {K : PySem.W.Frag} {mg : Str → Option Value} {F : Hp} {ρ : List Addr} {M : Sto} {H : Hp} {d : D} {v : V} (st : StOk K mg F ρ M H) (r : Rep K mg F ρ d v) (h : preL M d = true) : tyV K "list" v H := by
  unfold preL at h
  obtain ⟨ds, hs⟩ := Option.isSome_iff_exists.mp h
  obtain ⟨a, vs, rfl, q, _⟩ := lstOf_at st r hs
  exact .inl ⟨rfl, vs, SqL.of q⟩
theorem preS_ty {K : PySem.W.Frag} {mg : Str → Option Value} {F : Hp} {ρ : List Addr} {M : Sto} {H : Hp} {d : D} {v : V} (st : StOk K mg F ρ M H) (r : Rep K mg F ρ d v) (h : preS M d = true) : tyV K "str" v H := by
  cases d with
  | str x => rw [r.str]; rfl
  | _ => simp [preS] at h
theorem mt_imp {K : PySem.W.Frag} {mg : Str → Option Value} {W : WX} {T : String} {pre : Sto → D → Bool} {r : V → List V → Hp → VK → Prop} {f : D → List D → Sto → Res D} {mo : ME} {ms : MA} {σ : L2.St} {H : Hp} {Q : VK} (hs : MtS K mg T pre r f) (h : tD K mg W (mMt pre f mo ms) σ H Q) : tBM K T r (tD K mg W mo) (tDs K mg W ms) σ H Q := by
  obtain ⟨F, ρ, Γ, M, g, st, h⟩ := h
  refine ⟨F, ρ, Γ, M, g, st, h.bind.imp fun F1 ρ1 M1 H1 d v gr st1 rv h1 => ?_⟩
  obtain ⟨hp, h1⟩ := iff_elim h1
  exact ⟨hs.1 _ _ _ _ _ _ st1 rv hp, F1, ρ1, Γ, M1, g.grow gr, st1, h1.bind.imp fun F2 ρ2 M2 H2 ds vs gr2 st2 rs h2 => hs.2 _ _ _ _ _ _ _ _ _ _ st2 (rv.mono gr2.f gr2.r) rs h2⟩
theorem mts_append {K : PySem.W.Frag} {mg : Str → Option Value} : MtS K mg "list" preL rAppend fAppend := by
  refine ⟨fun F ρ M H d v st r h => preL_ty st r h, fun F ρ M H d v ds vs W Q st r rs h => ?_⟩
  unfold fAppend at h
  split at h
  · rename_i n e
    split at h
    · rename_i xs hx
      obtain ⟨hz, h⟩ := iff_elim h
      obtain ⟨a, rfl, q⟩ := r.ref
      obtain ⟨u, rfl, ru⟩ := reps1 rs
      obtain ⟨a', h3, h4⟩ := st.at_ n _ hx
      rw [q] at h3; cases h3
      obtain ⟨nF, us, hH, rr, z⟩ := h4
      have z1 : us.length < sizeLine := by rw [sizeLine_eq, rr.len]; exact hz
      refine ⟨a, us, u, rfl, rfl, hH, z1, ?_⟩
      obtain ⟨st3, gr3⟩ := st.write (ho := .lst (us ++ [u])) (o' := .lst (xs ++ [e])) q nF ⟨nF, us ++ [u], upd_same, rr.append (.cons ru .nil), by rw [List.length_append]; exact z1⟩
      exact h _ _ _ _ gr3 st3 rep_non
    · exact h.elim
  · exact h.elim
/-- o[i] = e of a list that may change -/
def mSetIx (mo mi mv : ME) : MS := fun Γ M => (mv Γ M).toS Γ fun d M1 => (mo Γ M1).toS Γ fun o M2 => (mi Γ M2).toS Γ fun i M3 => match o, i with
  | .ref n, .int k => match M3[n]? with
    | some (.lst ds) => match ixN ds.length k with
      | some j => .nx Γ (M3.set n (.lst (ds.set j d)))
      | none => .stuck
    | _ => .stuck
  | _, _ => .stuck
section
variable {X : Cx} {W : WX} {o e i value : Expr} {es : List Expr} {mo mi mv : ME} {ms : MA} {apos cpos pos tpos : Pos}
theorem se_mt {T id : String} {name : Str} {pre : Sto → D → Bool} {r : V → List V → Hp → VK → Prop} {f : D → List D → Sto → Res D} (pa : PlainAttrs T) (slot : Slot T name id) (hty : typeOf (.builtin id) = pure (.type "method_descriptor")) (hm : MtR X id r) (hs' : MtS X.K X.mg T pre r f) (ho : SE X W mo o) (ha : SA X W ms (e :: es))
    (hbase : attributeBase o name X.env (eval o X.env) = eval o X.env := by rfl)
    (hfew : ((backTo cpos (starEach (e :: es) X.env)).all (fun x => !x.1) && (backToKw cpos (keywordEach [] X.env)).all (fun x => x.1.isSome) && decide ((e :: es).length + ([] : List Keyword).length + (if ([] : List Keyword).isEmpty then 0 else 1) < 30)) = true := by rfl)
    (hline : (apos.endLine == cpos.line) = true := by rfl) (hs : starEach (e :: es) X.env = (false, eval e X.env) :: starEach es X.env := by rfl) (hplain : (backTo cpos (starEach es X.env)).any (·.1) = false := by rfl) :
    SE X W (mMt pre f mo ms) (.Call (.Attribute o name apos) (e :: es) [] cpos) :=
  (pe_bm pa slot hty hm ho ha hbase hfew hline hs hplain).imp fun σ H Q h => mt_imp hs' h
theorem ss_setIx (ho : SE X W mo o) (hi : SE X W mi i) (hv : SE X W mv value) (hs : swapsWithSole [.Subscript o i tpos] value pos.line X.env = pure false := by rfl) (hw : swappedStores [.Subscript o i tpos] value X.env = pure none := by rfl)
    (h1 : (assignEach [.Subscript o i tpos] X.env).map (·.2) = [assign (.Subscript o i tpos) X.env] := by rfl)
    (ha : ∀ v, assign (.Subscript o i tpos) X.env v = (do
      let ov ← holding [v] (eval o X.env)
      let iv ← holding [v, ov] (eval i X.env)
      standAt tpos
      holding [v, ov, iv] (setItem ov iv v)
      release [v, ov, iv] []) := by intro _; rfl) : SS X W (mSetIx mo mi mv) (.Assign [.Subscript o i tpos] value pos) :=
  (ps_asg hv (pg_sub ho hi set_list ha) hs hw h1).imp fun D σ H ⟨F, ρ, Γ, M, g, st, h⟩ => ⟨F, ρ, Γ, M, g, st, (AftS.bind h g rfl).imp fun F1 ρ1 M1 H1 d v gr st1 rv h1 => ⟨F1, ρ1, Γ, M1, g.grow gr, st1,
    (AftS.bind h1 (g.grow gr) rfl).imp fun F2 ρ2 M2 H2 od ov gr2 st2 ro h2 => ⟨F2, ρ2, Γ, M2, (g.grow gr).grow gr2, st2, (AftS.bind h2 ((g.grow gr).grow gr2) rfl).imp fun F3 ρ3 M3 H3 id iv gr3 st3 ri h3 => by
      split at h3
      · rename_i n k
        split at h3
        · rename_i ds hx
          split at h3
          · rename_i j hj
            obtain ⟨a, rfl, q⟩ := ro.ref
            have q3 := gr3.r.get q
            obtain ⟨a', h4, h5⟩ := st3.at_ n _ hx
            rw [q3] at h4; cases h4
            obtain ⟨nF, us, hH, rr, z⟩ := h5
            refine ⟨a, us, k, j, rfl, ri.int, hH, by rw [rr.len]; exact hj, ?_⟩
            have rv3 := (rv.mono gr2.f gr2.r).mono gr3.f gr3.r
            obtain ⟨st4, gr4⟩ := st3.write (ho := .lst (us.set j v)) (o' := .lst (ds.set j d)) q3 nF ⟨nF, us.set j v, upd_same, rr.set j rv3, by rw [List.length_set]; exact z⟩
            exact h3 _ _ _ _ gr4 st4 ((((g.grow gr).grow gr2).grow gr3).grow gr4) rfl
          · exact h3.elim
        · exact h3.elim
      · exact h3.elim⟩⟩⟩
end
/-- a list that changed is done with -/
def fFreeze (d : D) (M : Sto) : Res D := match d with
  | .ref n => match M[n]? with
    | some (.lst ds) => .ok (.lst ds) (M.set n .dead)
    | _ => .stuck
  | d => .ok d M
def mFrz (m : ME) : ME := fun Γ M => (m Γ M).bind fun d M1 => fFreeze d M1
theorem frz_elim {K : PySem.W.Frag} {mg : Str → Option Value} {F : Hp} {ρ : List Addr} {M : Sto} {H : Hp} {d : D} {v : V} {W : XK} {Q : VK} (st : StOk K mg F ρ M H) (r : Rep K mg F ρ d v) (h : AftK K mg (Rep K mg) W (fFreeze d M) F ρ H (fun _ _ _ H' _ v => Q v H')) : Q v H := by
  unfold fFreeze at h
  split at h
  · rename_i n
    split at h
    · rename_i ds hx
      obtain ⟨a, rfl, q⟩ := r.ref
      obtain ⟨a', h4, h5⟩ := st.at_ n _ hx
      rw [q] at h4; cases h4
      obtain ⟨nF, us, hH, rr, z⟩ := h5
      have hs : Sub F (upd F a (.lst us)) := fun b o e => by rw [upd_ne (ne_of_none e nF)]; exact e
      refine h (upd F a (.lst us)) ρ H _ ⟨hs, Pre.refl _, fun _ z => .inl z, fun _ _ e _ => e, fun b o e => ?_⟩ ⟨fun b o e => ?_, fun b vs e => ?_, fun b vs e => ?_, by simp [st.len], st.nd, st.trk, fun m o e => ?_⟩ (rep_lst upd_same (rr.mono hs (Pre.refl _)))
      · by_cases hb : b = a
        · subst hb; exact .inr (.inr (List.mem_of_getElem? q))
        · rw [upd_ne hb] at e; exact .inl e
      · by_cases hb : b = a
        · subst hb; rw [upd_same] at e; rw [hH]; exact e
        · rw [upd_ne hb] at e; exact st.sub b o e
      · rcases sqL_ne e with e | ⟨_, e | ⟨ob, e⟩⟩
        · exact st.szL b vs e
        · cases e; exact z
        · cases e
      · rcases sqT_ne e with e | ⟨_, e | ⟨ob, e⟩⟩
        · exact st.szT b vs e
        · cases e
        · cases e
      · by_cases hm : n = m
        · subst hm
          have hl : n < M.length := by
            have := (List.getElem?_eq_some_iff.mp e).1
            simpa using this
          rw [List.getElem?_set_self hl] at e
          cases e
          exact ⟨a, q, trivial⟩
        · rw [List.getElem?_set_ne hm] at e
          obtain ⟨b, h1, h2⟩ := st.at_ m o e
          have ne : b ≠ a := fun z => hm (nd_at st.nd q (z ▸ h1))
          exact ⟨b, h1, h2.mono hs (Pre.refl _) (fun q => by rw [upd_ne ne]; exact q) (.inr rfl)⟩
    · exact h.elim
  · exact AftK.ok h st r
theorem se_frz {X : Cx} {W : WX} {m : ME} {e : Expr} (h : SE X W m e) : SE X W (mFrz m) e := h.imp fun σ H Q ⟨F, ρ, Γ, M, g, st, h⟩ => ⟨F, ρ, Γ, M, g, st, h.bind.imp fun F1 ρ1 M1 H1 d v gr st1 rv h1 => frz_elim st1 rv h1⟩
end DL

namespace DL
open PySem PySem.Spec PyProof.Rows L2

/-! ### comprehensions with two clauses -/
def lcL2 (g : MG) (t : MT) (it1 : MI) (g1 : MG) (vs1 : List Nat) (t1 : MT) (e : ME) (chk : Sto → Bool) (Γ : DEnv) : List D → Sto → Res (List D)
  | [], M => if chk M = true then .ok [] M else .stuck
  | d :: ds, M => if chk M = true then (g d Γ M).noX.bind fun Γ1 M1 => (t Γ1 M1).noX.bind fun b M2 =>
      if b = true then (it1 Γ1 M2).noX.bind fun p1 M3 => (lcL g1 t1 e p1.2 (dwipe Γ1 vs1) p1.1 M3).bind fun ys M4 => (lcL2 g t it1 g1 vs1 t1 e chk Γ ds M4).bind fun zs M5 => .ok (ys ++ zs) M5
      else lcL2 g t it1 g1 vs1 t1 e chk Γ ds M2
    else .stuck
def mLc2 (it : MI) (g : MG) (vs : List Nat) (t : MT) (it1 : MI) (g1 : MG) (vs1 : List Nat) (t1 : MT) (e : ME) : ME := fun Γ M => (it Γ M).bind fun p M1 => (lcL2 g t it1 g1 vs1 t1 e p.2 (dwipe Γ vs) p.1 M1).bind fun ys M2 => if ys.length ≤ 16777216 then .ok (.lst ys) M2 else .stuck
def Res.isX {α : Type} : Res α → Bool
  | .exc _ _ => true
  | _ => false
theorem isX_noX {α : Type} (r : Res α) : r.noX.isX = false := by cases r <;> rfl
theorem isX_bind {α β : Type} {r : Res α} {f : α → Sto → Res β} (h : r.isX = false) (k : ∀ a M, (f a M).isX = false) : (r.bind f).isX = false := by
  cases r with
  | ok a M => exact k a M
  | exc x M => cases h
  | stuck => rfl
theorem lcL_nx {g : MG} {t : MT} {e : ME} {chk : Sto → Bool} {Γ : DEnv} : ∀ (ds : List D) (M : Sto), (lcL g t e chk Γ ds M).isX = false
  | [], M => by unfold lcL; split <;> rfl
  | d :: ds, M => by
    unfold lcL
    split
    · refine isX_bind (isX_noX _) fun Γ1 M1 => isX_bind (isX_noX _) fun b M2 => ?_
      split
      · exact isX_bind (isX_noX _) fun y M3 => isX_bind (lcL_nx ds M3) fun _ _ => rfl
      · exact lcL_nx ds M2
    · rfl
theorem lcL2_nx {g : MG} {t : MT} {it1 : MI} {g1 : MG} {vs1 : List Nat} {t1 : MT} {e : ME} {chk : Sto → Bool} {Γ : DEnv} : ∀ (ds : List D) (M : Sto), (lcL2 g t it1 g1 vs1 t1 e chk Γ ds M).isX = false
  | [], M => by unfold lcL2; split <;> rfl
  | d :: ds, M => by
    unfold lcL2
    split
    · refine isX_bind (isX_noX _) fun Γ1 M1 => isX_bind (isX_noX _) fun b M2 => ?_
      split
      · exact isX_bind (isX_noX _) fun p M3 => isX_bind (lcL_nx _ _) fun ys M4 => isX_bind (lcL2_nx ds M4) fun _ _ => rfl
      · exact lcL2_nx ds M2
    · rfl
theorem bind_ok_of {K : PySem.W.Frag} {mg : Str → Option Value} {α β γ : Type} {r : Res α} {f : α → Sto → Res β} {R : Hp → List Addr → β → γ → Prop} {W : XK} {F : Hp} {ρ : List Addr} {H : Hp} {C : Hp → List Addr → Sto → Hp → β → γ → Prop} (hx : r.isX = false)
    (h : AftK K mg R W (r.bind f) F ρ H C) : ∃ a M, r = .ok a M ∧ AftK K mg R W (f a M) F ρ H C := by
  cases r with
  | ok a M => exact ⟨a, M, rfl, h⟩
  | exc x M => cases hx
  | stuck => exact h.elim
def fin2 (ys : List D) (M : Sto) : Res D := if ys.length ≤ 16777216 then .ok (.lst ys) M else .stuck
abbrev SI' (X : Cx) (scope : Scope) (m : MI) (tg e : Expr) : Prop := ∀ (s : Shared) (H : Hp) (C : Addr) (cl : List (Str × Addr)) (fp : List Addr), SI (X.blk s H scope (compEnvC scope cl C X.env) fp) W0 m tg e
theorem lc2_imp {K : PySem.W.Frag} {mg : Str → Option Value} {W : WX} {mi mi1 : MI} {gm gm1 : MG} {vs sl vs1 sl1 : List Nat} {t t1 : MT} {e : ME} {σ : L2.St} {H : Hp} {Q : VK}
    (hs : ∀ i ∈ sl, i ∈ vs) (hs1 : ∀ i ∈ sl1, i ∈ vs1) (h : tD K mg W (mLc2 mi gm vs t mi1 gm1 vs1 t1 e) σ H Q) :
    tLc2 (tI K mg W mi) (tG K mg sl gm) (tDt K mg W0 t) (tI K mg W0 mi1) (tG K mg sl1 gm1) (tDt K mg W0 t1) (tD K mg W0 e) vs vs1 σ H Q := by
  obtain ⟨F, ρ, Γ, M, g, st, h⟩ := h
  refine ⟨F, ρ, Γ, M, g, st, h.bind.imp fun F1 ρ1 M1 H1 p J gr st1 hJ h1 => ?_⟩
  obtain ⟨ds, chk⟩ := p
  intro D nD
  refine ⟨fun i m' H' => m' = ds.length - i ∧ i ≤ ds.length ∧ ∃ F' ρ' M' acc da, LcAt K mg F1 ρ1 H1 D F' ρ' M' H' acc da ∧
      AftK K mg (Rep K mg) (WE W σ) ((lcL2 gm t mi1 gm1 vs1 t1 e chk (dwipe Γ vs) (ds.drop i) M').bind fun ys M2 => fin2 (da ++ ys) M2) F1 ρ1 H1 (fun _ _ _ H' _ v => Q v H'),
    ⟨_, rfl, Nat.zero_le _, F1, ρ1, M1, [], [], .start st1 nD, by simpa [fin2] using h1⟩, ?_⟩
  rintro i _ H2 ⟨rfl, hi, F2, ρ2, M2, acc, da, L, h2⟩
  by_cases hlt : i < ds.length
  · right
    have hd : ds.drop i = ds[i] :: ds.drop (i + 1) := List.drop_eq_getElem_cons hlt
    rw [hd] at h2
    unfold lcL2 at h2
    split at h2
    · rename_i hk
      obtain ⟨go, step⟩ := (hJ.2 F2 ρ2 M2 H2 i L.f L.r L.st hk).1 ds[i] (by simp [hlt])
      refine ⟨go, _, fun H' n => ⟨_, (by show ds.length - (i + 1) < ds.length - i; omega), n⟩, fun x H3 y => ?_⟩
      obtain ⟨F3, gr3, st3, r3⟩ := step x H3 y
      have L3 := L.go gr3 st3
      have g3 : GOk K mg F3 ρ2 (dwipe Γ vs) (wipe σ vs) := ((g.grow gr).mono L3.f L3.r).wipe vs
      refine ⟨F3, ρ2, dwipe Γ vs, M2, ds[i], g3, st3, r3, ?_⟩
      cases hg : gm ds[i] (dwipe Γ vs) M2 with
      | exc x M3 => rw [hg] at h2; exact h2.elim
      | stuck => rw [hg] at h2; exact h2.elim
      | ok Γ4 M4 =>
        rw [hg] at h2
        simp only [noX_ok, Res.bind_ok] at h2
        intro F4 ρ4 H4 σ4 gr4 st4 g4 o4
        have L4 := L3.go gr4 st4
        refine ⟨wipe_only o4 hs, F4, ρ4, Γ4, M4, g4, st4, ?_⟩
        cases ht : t Γ4 M4 with
        | exc x M3 => rw [ht] at h2; exact h2.elim
        | stuck => rw [ht] at h2; exact h2.elim
        | ok b M5 =>
          rw [ht] at h2
          simp only [noX_ok, Res.bind_ok] at h2
          intro F5 ρ5 H5 _ gr5 st5 _
          have L5 := L4.go gr5 st5
          cases b with
          | false =>
            simp only [Bool.false_eq_true, if_false] at h2 ⊢
            exact ⟨trivial, hlt, F5, ρ5, M5, acc, da, L5, h2⟩
          | true =>
            simp only [if_true] at h2 ⊢
            refine ⟨F5, ρ5, Γ4, M5, g4.grow gr5, st5, ?_⟩
            cases hm1 : mi1 Γ4 M5 with
            | exc x M3 => rw [hm1] at h2; exact h2.elim
            | stuck => rw [hm1] at h2; exact h2.elim
            | ok p1 M6 =>
              rw [hm1] at h2
              simp only [noX_ok, Res.bind_ok] at h2
              obtain ⟨es, chk1⟩ := p1
              intro F6 ρ6 H6 J1 gr6 st6 hJ1
              have L6 := L5.go gr6 st6
              have g6 : GOk K mg F6 ρ6 Γ4 σ4 := (g4.grow gr5).grow gr6
              have assoc : ∀ (r : Res (List DL.D)) (da' : List DL.D), ((r.bind fun ys M4 => (lcL2 gm t mi1 gm1 vs1 t1 e chk (dwipe Γ vs) (ds.drop (i + 1)) M4).bind fun zs M5 => .ok (ys ++ zs) M5).bind fun ys M2 => fin2 (da' ++ ys) M2) =
                  r.bind fun ys M4 => (lcL2 gm t mi1 gm1 vs1 t1 e chk (dwipe Γ vs) (ds.drop (i + 1)) M4).bind fun zs M5 => fin2 (da' ++ ys ++ zs) M5 := fun r da' => by
                cases r with
                | ok ys M4 =>
                  simp only [Res.bind_ok]
                  cases lcL2 gm t mi1 gm1 vs1 t1 e chk (dwipe Γ vs) (ds.drop (i + 1)) M4 <;> simp
                | exc x M4 => rfl
                | stuck => rfl
              rw [assoc] at h2
              refine ⟨fun j k H' => k = es.length - j ∧ j ≤ es.length ∧ ∃ F' ρ' M' acc da, LcAt K mg F1 ρ1 H1 D F' ρ' M' H' acc da ∧ Sub F6 F' ∧ Pre ρ6 ρ' ∧
                  AftK K mg (Rep K mg) (WE W σ) ((lcL gm1 t1 e chk1 (dwipe Γ4 vs1) (es.drop j) M').bind fun ys M4 => (lcL2 gm t mi1 gm1 vs1 t1 e chk (dwipe Γ vs) (ds.drop (i + 1)) M4).bind fun zs M5 => fin2 (da ++ ys ++ zs) M5) F1 ρ1 H1 (fun _ _ _ H' _ v => Q v H'),
                ⟨_, rfl, Nat.zero_le _, F6, ρ6, M6, acc, da, L6, Sub.refl _, Pre.refl _, h2⟩, ?_⟩
              rintro j _ H7 ⟨rfl, hj, F7, ρ7, M7, acc7, da7, L7, s7, p7, h7⟩
              by_cases hjt : j < es.length
              · right
                have hd1 : es.drop j = es[j] :: es.drop (j + 1) := List.drop_eq_getElem_cons hjt
                rw [hd1] at h7
                unfold lcL at h7
                split at h7
                · rename_i hk1
                  obtain ⟨go1, step1⟩ := (hJ1.2 F7 ρ7 M7 H7 j s7 p7 L7.st hk1).1 es[j] (by simp [hjt])
                  refine ⟨go1, _, fun H' n => ⟨_, (by show es.length - (j + 1) < es.length - j; omega), n⟩, fun x8 H8 y8 => ?_⟩
                  obtain ⟨F8, gr8, st8, r8⟩ := step1 x8 H8 y8
                  have L8 := L7.go gr8 st8
                  have g8 : GOk K mg F8 ρ7 (dwipe Γ4 vs1) (wipe σ4 vs1) := ((g6.mono s7 p7).mono gr8.f gr8.r).wipe vs1
                  refine ⟨F8, ρ7, dwipe Γ4 vs1, M7, es[j], g8, st8, r8, ?_⟩
                  cases hg1 : gm1 es[j] (dwipe Γ4 vs1) M7 with
                  | exc x M3 => rw [hg1] at h7; exact h7.elim
                  | stuck => rw [hg1] at h7; exact h7.elim
                  | ok Γ9 M9 =>
                    rw [hg1] at h7
                    simp only [noX_ok, Res.bind_ok] at h7
                    intro F9 ρ9 H9 σ9 gr9 st9 g9 o9
                    have L9 := L8.go gr9 st9
                    refine ⟨wipe_only o9 hs1, F9, ρ9, Γ9, M9, g9, st9, ?_⟩
                    cases ht1 : t1 Γ9 M9 with
                    | exc x M3 => rw [ht1] at h7; exact h7.elim
                    | stuck => rw [ht1] at h7; exact h7.elim
                    | ok b1 M10 =>
                      rw [ht1] at h7
                      simp only [noX_ok, Res.bind_ok] at h7
                      intro F10 ρ10 H10 _ gr10 st10 _
                      have L10 := L9.go gr10 st10
                      have s10 := ((s7.trans gr8.f).trans gr9.f).trans gr10.f
                      have p10 := ((p7.trans gr8.r).trans gr9.r).trans gr10.r
                      cases b1 with
                      | false =>
                        simp only [Bool.false_eq_true, if_false] at h7 ⊢
                        exact ⟨trivial, hjt, F10, ρ10, M10, acc7, da7, L10, s10, p10, h7⟩
                      | true =>
                        simp only [if_true] at h7 ⊢
                        refine ⟨F10, ρ10, Γ9, M10, g9.grow gr10, st10, ?_⟩
                        cases he : e Γ9 M10 with
                        | exc x M3 => rw [he] at h7; exact h7.elim
                        | stuck => rw [he] at h7; exact h7.elim
                        | ok y M11 =>
                          rw [he] at h7
                          simp only [noX_ok, Res.bind_ok] at h7
                          intro F11 ρ11 H11 v gr11 st11 r11
                          have L11 := L10.go gr11 st11
                          have assoc2 : (((lcL gm1 t1 e chk1 (dwipe Γ4 vs1) (es.drop (j + 1)) M11).bind fun ys M4 => .ok (y :: ys) M4).bind fun ys M4 => (lcL2 gm t mi1 gm1 vs1 t1 e chk (dwipe Γ vs) (ds.drop (i + 1)) M4).bind fun zs M5 => fin2 (da7 ++ ys ++ zs) M5) =
                              (lcL gm1 t1 e chk1 (dwipe Γ4 vs1) (es.drop (j + 1)) M11).bind fun ys M4 => (lcL2 gm t mi1 gm1 vs1 t1 e chk (dwipe Γ vs) (ds.drop (i + 1)) M4).bind fun zs M5 => fin2 (da7 ++ [y] ++ ys ++ zs) M5 := by
                            cases lcL gm1 t1 e chk1 (dwipe Γ4 vs1) (es.drop (j + 1)) M11 with
                            | ok ys M12 => simp
                            | exc x M12 => rfl
                            | stuck => rfl
                          rw [assoc2] at h7
                          have hz : acc7.length < sizeLine := by
                            obtain ⟨ys, M12, _, h8⟩ := bind_ok_of (lcL_nx _ _) h7
                            obtain ⟨zs, M13, _, h9⟩ := bind_ok_of (lcL2_nx _ _) h8
                            have := (iff_elim h9).1
                            have hl := L11.rep.len
                            simp at this
                            rw [sizeLine_eq]
                            omega
                          exact ⟨acc7, L11.hD, hz, trivial, hjt, F11, ρ11, M11, _, _, L11.push nD r11, s10.trans gr11.f, p10.trans gr11.r, h7⟩
                · exact h7.elim
              · left
                have e1 : j = es.length := by omega
                subst e1
                rw [List.drop_length] at h7
                unfold lcL at h7
                split at h7
                · rename_i hk1
                  simp only [Res.bind_ok, List.append_nil] at h7
                  exact ⟨(hJ1.2 F7 ρ7 M7 H7 _ s7 p7 L7.st hk1).2 (Nat.le_refl _), trivial, hlt, F7, ρ7, M7, acc7, da7, L7, h7⟩
                · exact h7.elim
    · exact h2.elim
  · left
    have e1 : i = ds.length := by omega
    subst e1
    rw [List.drop_length] at h2
    unfold lcL2 at h2
    split at h2
    · rename_i hk
      simp only [Res.bind_ok, List.append_nil] at h2
      obtain ⟨hz, h2⟩ := iff_elim h2
      exact ⟨(hJ.2 F2 ρ2 M2 H2 _ L.f L.r L.st hk).2 (Nat.le_refl _), fin_lst L nD (by rw [L.rep.len, sizeLine_eq]; exact hz) h2⟩
    · exact h2.elim
section
variable {X : Cx} {W : WX} {elt tg iter tg1 iter1 : Expr} {ifs ifs1 : List Expr} {scope : Scope} {own : List (Str × Nat)} {vs1 : List Nat} {pos : Pos} {mi mi1 : MI} {gm gm1 : MG} {t t1 : MT} {e : ME}
theorem se_lc2 (hc : X.calm = true) (hN : X.N.Nodup) (hi : SI X W mi tg iter) (ok : BlkOk X.N X.env.scope scope own) (hv : ∀ i ∈ vs1, i ∈ own.map (·.2)) (hg : SG' X scope (own.map (·.2)) gm tg) (ht : ST' X scope t ifs) (hi1 : SI' X scope mi1 tg1 iter1) (hg1 : SG' X scope vs1 gm1 tg1) (ht1 : ST' X scope t1 ifs1) (he : SE' X scope e elt)
    (hs : ∀ x, foldedSetIterable iter X.env x = pure x := by intro _; rfl) (hs1 : ∀ env x, foldedSetIterable iter1 env x = pure x := by intro _ _; rfl) : SE X W (mLc2 mi gm (own.map (·.2)) t mi1 gm1 vs1 t1 e) (.ListComp elt [⟨tg, iter, ifs, 0⟩, ⟨tg1, iter1, ifs1, 0⟩] scope pos) :=
  (pe_lc2 hc hN hi ok hv hg ht hi1 hg1 ht1 he hs hs1).imp fun σ H Q h => lc2_imp (fun _ h => h) (fun _ h => h) h
theorem ss_lc2 {i : Nat} {y : Str} {py spos : Pos} (hc : X.calm = true) (hN : X.N.Nodup) (hy : X.N[i]? = some y) (hyl : X.env.scope.names.lookup y = some .local) (hsw : swapsWith (.ListComp elt [⟨tg, iter, ifs, 0⟩, ⟨tg1, iter1, ifs1, 0⟩] scope pos) (some (.Name y py)) spos.line X.env = pure true)
    (hi : SI X W mi tg iter) (ok : BlkOk X.N X.env.scope scope own) (hv : ∀ i ∈ vs1, i ∈ own.map (·.2)) (hg : SG' X scope (own.map (·.2)) gm tg) (ht : ST' X scope t ifs) (hi1 : SI' X scope mi1 tg1 iter1) (hg1 : SG' X scope vs1 gm1 tg1) (ht1 : ST' X scope t1 ifs1) (he : SE' X scope e elt)
    (hs : ∀ x, foldedSetIterable iter X.env x = pure x := by intro _; rfl) (hs1 : ∀ env x, foldedSetIterable iter1 env x = pure x := by intro _ _; rfl) :
    SS X W (mAsg (mLc2 mi gm (own.map (·.2)) t mi1 gm1 vs1 t1 e) (mGN i)) (.Assign [.Name y py] (.ListComp elt [⟨tg, iter, ifs, 0⟩, ⟨tg1, iter1, ifs1, 0⟩] scope pos) spos) :=
  ss_set ((ps_setLc2 hc hN hy hyl hsw hi ok hv hg ht hi1 hg1 ht1 he hs hs1).imp fun D σ H h => lc2_imp (fun _ h => h) (fun _ h => h) h)
end
end DL

/-! zip(.., strict=True), of lists and tuples -/
namespace DL
open PySem
open PySem.Sem (wp)

abbrev IsZipS (h : Heap) (z TI TO : Addr) (f0 : Value) : Prop :=
  h.get? z = some { cls := .type "zip", dict := none, data := .fields #[f0, .bool false, .bool true, .ref TI, .ref TO], slots := #[] }

/-- an iterator of a list, of a tuple -/
def ItI (t : Bool) (h : Heap) (it l : Addr) (k : Nat) : Prop := if t = true then h.IsTupleIter it l k else h.IsListIter it l k
def SqI (t : Bool) (h : Heap) (l : Addr) (xs : Array Value) : Prop := if t = true then h.IsTuple l xs else h.IsList l xs
theorem ItI.at {t : Bool} {h h' : Heap} {it l : Addr} {k : Nat} (x : ItI t h it l k) (e : ∀ o, h.get? it = some o → h'.get? it = some o) : ItI t h' it l k := by
  cases t
  · exact Heap.IsListIter.at x e
  · exact Heap.IsTupleIter.at x e
theorem SqI.at {t : Bool} {h h' : Heap} {l : Addr} {xs : Array Value} (x : SqI t h l xs) (e : ∀ o, h.get? l = some o → h'.get? l = some o) : SqI t h' l xs := by
  cases t
  · exact Heap.IsList.at x e
  · exact Heap.IsTuple.at x e
theorem ItI.obj {t : Bool} {h : Heap} {it l : Addr} {k : Nat} (x : ItI t h it l k) : ∃ o, h.get? it = some o ∧ ∀ v, o.data ≠ .cell v := by
  cases t
  · obtain ⟨o, e, _, d⟩ := (show h.IsListIter it l k from x)
    exact ⟨o, e, fun v q => by rw [d] at q; cases q⟩
  · obtain ⟨o, e, _, d⟩ := (show h.IsTupleIter it l k from x)
    exact ⟨o, e, fun v q => by rw [d] at q; cases q⟩
section
variable {prog : Program} {w : World} {A : Around} {E : Value → Shared → Prop} {s : Shared}
theorem nextI_item {t : Bool} {it l : Addr} {i : Nat} {items : Array Value} {x : Value} {Q : Option Value → Shared → Prop} (hit : ItI t s.heap it l i)
    (hl : SqI t s.heap l items) (hx : items[i]? = some x)
    (hQ : ∀ h', ItI t h' it l (i + 1) → Heap.SameBut it s.heap h' → Q (some x) { s with heap := h' }) :
    wpAny (model prog w) A (Builtin.SmallTypes.nextOrEnd (.ref it)) Q E s := by
  unfold Builtin.SmallTypes.nextOrEnd
  refine wpAny_bind (wpAny_attempt ?_)
  cases t
  · exact wpAny_nextOf_list_item hit hl hx fun h' a b => wpAny_pure (hQ h' a b)
  · exact RZ.nextOf_tuple_item hit hl hx fun h' a b => wpAny_pure (hQ h' a b)
theorem nextI_end {t : Bool} {it l : Addr} {i : Nat} {items : Array Value} {Q : Option Value → Shared → Prop} (hh : A.handled = none) (hit : ItI t s.heap it l i)
    (hl : SqI t s.heap l items) (hx : items[i]? = none) (hQ : ∀ h', Heap.ExtBut it s.heap h' → Q none { s with heap := h' }) :
    wpAny (model prog w) A (Builtin.SmallTypes.nextOrEnd (.ref it)) Q E s := by
  unfold Builtin.SmallTypes.nextOrEnd
  refine wpAny_bind (wpAny_attempt ?_)
  have fin : ∀ h' e, Heap.ExtBut it s.heap h' → (∃ o, h'.get? e = some o ∧ o.cls = .type "StopIteration") →
      wpAny (model prog w) A (do if ← isInstance (.ref e) (.type "StopIteration") then pure none else throw (.ref e)) Q E { s with heap := h' } := fun h' e hs ⟨o, ho, hc⟩ =>
    wpAny_bind (wpAny_isInstance (T := "StopIteration") (b := true) ⟨o, ho, hc⟩ isSubtype_stop (wpAny_pure (hQ _ hs)))
  cases t
  · exact wpAny_nextOf_list_end hh hit hl hx fun h' e a b => fin h' e a b
  · exact RZ.nextOf_tuple_end hh hit hl hx fun h' e a b => fin h' e a b
end
section
variable {prog : Program} {w : World} {A : Around} {E : Value → Shared → Prop} {s : Shared} {t1 t2 : Bool}
theorem zipS_next_item {z TI TO i1 i2 l1 l2 : Addr} {k1 k2 : Nat} {xs ys : Array Value} {x y a b : Value} {Q : Value → Shared → Prop} (D : ZipApart z TI TO i1 i2 l1 l2)
    (hz : IsZipS s.heap z TI TO .none) (hTI : IsPair s.heap TI (.ref i1) (.ref i2)) (hTO : IsPair s.heap TO a b)
    (h1 : ItI t1 s.heap i1 l1 k1) (h2 : ItI t2 s.heap i2 l2 k2) (hl1 : SqI t1 s.heap l1 xs) (hl2 : SqI t2 s.heap l2 ys) (hx : xs[k1]? = some x) (hy : ys[k2]? = some y)
    (hQ : ∀ h', IsZipS h' z TI TO (rawInt s.heap.objs.size) → IsPair h' TO x y → ItI t1 h' i1 l1 (k1 + 1) → ItI t2 h' i2 l2 (k2 + 1) → IsPair h' s.heap.objs.size x y → h'.objs.size = s.heap.objs.size + 1 →
      (∀ c o, c ≠ z → c ≠ TO → c ≠ i1 → c ≠ i2 → s.heap.get? c = some o → h'.get? c = some o) → Q (.ref s.heap.objs.size) { s with heap := h' }) :
    wpAny (model prog w) A (Builtin.«zip.__next__» ⟨[.ref z], []⟩) (fun fin s' => ∃ v, fin = .done (.ret v) ∧ Q v s') E s := by
  show wpAny _ _ (field (.ref z) 2 >>= _) _ _ _
  refine wpAny_bind (wpAny_field hz rfl (x := .bool true) rfl ?_)
  show wpAny _ _ (field (.ref z) 3 >>= _) _ _ _
  refine wpAny_bind (wpAny_field hz rfl (x := .ref TI) rfl ?_)
  refine wpAny_bind (wpAny_seqItems hTI rfl ?_)
  show wpAny _ _ (Builtin.SmallTypes.ownedTupleIsFree (.ref z) >>= _) _ _ _
  refine wpAny_bind ?_
  unfold Builtin.SmallTypes.ownedTupleIsFree
  refine wpAny_bind (wpAny_field hz rfl (x := .none) rfl (wpAny_pure ?_))
  simp only [if_true]
  refine wpAny_bind (wpAny_rule ?_)
  refine wpAny_bind (wpAny_field hz rfl (x := .ref TO) rfl ?_)
  refine wpAny_bind (wpAny_setField_rec hz (by simp) fun h₁ hz₁ hs₁ => ?_)
  replace hz₁ : IsZipS h₁ z TI TO .ellipsis := hz₁
  refine wpAny_bind ?_
  simp only [List.zipIdx_cons, List.zipIdx_nil, List.forIn_cons, List.forIn_nil]
  refine wpAny_bind (wpAny_bind (wpAny_onRaise ?_))
  show wpAny _ _ (Builtin.SmallTypes.nextOrEnd (.ref i1)) _ _ _
  refine nextI_item (h1.at fun o e => hs₁.extBut _ o D.i1z e) (hl1.at fun o e => hs₁.extBut _ o D.l1z e) hx fun h₂ h1₂ hs₂ => ?_
  have hTO₂ : IsPair h₂ TO a b := hs₂.extBut _ _ D.TOi1 (hs₁.extBut _ _ D.TOz hTO)
  refine wpAny_bind (wpAny_seqItems hTO₂ rfl ?_)
  refine wpAny_bind (wpAny_updateSeq_pair hTO₂ fun h₃ hTO₃ hs₃ => ?_)
  replace hTO₃ : IsPair h₃ TO x b := hTO₃
  refine wpAny_bind (wpAny_letGo (wpAny_pure ?_))
  refine wpAny_bind (wpAny_bind (wpAny_onRaise ?_))
  show wpAny _ _ (Builtin.SmallTypes.nextOrEnd (.ref i2)) _ _ _
  refine nextI_item (((h2.at fun o e => hs₁.extBut _ o D.i2z e).at fun o e => hs₂.extBut _ o D.i12.symm e).at fun o e => hs₃.extBut _ o D.TOi2.symm e)
    (((hl2.at fun o e => hs₁.extBut _ o D.l2z e).at fun o e => hs₂.extBut _ o D.l2i1 e).at fun o e => hs₃.extBut _ o D.l2TO e) hy fun h₄ h2₄ hs₄ => ?_
  have hTO₄ : IsPair h₄ TO x b := hs₄.extBut _ _ D.TOi2 hTO₃
  refine wpAny_bind (wpAny_seqItems hTO₄ rfl ?_)
  refine wpAny_bind (wpAny_updateSeq_pair hTO₄ fun h₅ hTO₅ hs₅ => ?_)
  replace hTO₅ : IsPair h₅ TO x y := hTO₅
  refine wpAny_bind (wpAny_letGo (wpAny_pure (wpAny_pure ?_)))
  refine wpAny_bind (wpAny_seqItems hTO₅ rfl ?_)
  refine wpAny_bind (wpAny_newTuple ?_)
  have hsz : h₅.objs.size = s.heap.objs.size := by rw [hs₅.1, hs₄.1, hs₃.1, hs₂.1, hs₁.1]
  have hz₅ : IsZipS h₅ z TI TO .ellipsis := hs₅.extBut _ _ D.TOz.symm (hs₄.extBut _ _ D.i2z.symm (hs₃.extBut _ _ D.TOz.symm (hs₂.extBut _ _ D.i1z.symm hz₁)))
  have hk₅ : ∀ c o, c ≠ z → c ≠ TO → c ≠ i1 → c ≠ i2 → s.heap.get? c = some o → h₅.get? c = some o := fun c o c1 c2 c3 c4 e =>
    hs₅.extBut _ _ c2 (hs₄.extBut _ _ c4 (hs₃.extBut _ _ c2 (hs₂.extBut _ _ c3 (hs₁.extBut _ _ c1 e))))
  have h1₅ : ItI t1 h₅ i1 l1 (k1 + 1) := ((h1₂.at fun o e => hs₃.extBut _ o D.TOi1.symm e).at fun o e => hs₄.extBut _ o D.i12 e).at fun o e => hs₅.extBut _ o D.TOi1.symm e
  have h2₅ : ItI t2 h₅ i2 l2 (k2 + 1) := h2₄.at fun o e => hs₅.extBut _ o D.TOi2.symm e
  have hzlt : z < h₅.objs.size := Heap.lt_size hz₅
  show wpAny _ _ (Builtin.SmallTypes.ownedTupleHandOut (.ref z) (.ref h₅.objs.size) >>= _) _ _ _
  refine wpAny_bind ?_
  unfold Builtin.SmallTypes.ownedTupleHandOut
  have hz₆ : IsZipS (h₅.push { cls := .type "tuple", data := .seq #[x, y] }) z TI TO .ellipsis := Heap.get?_push_of_some _ hz₅
  refine wpAny_bind (wpAny_setField_rec hz₆ (by simp) fun h₇ hz₇ hs₇ => ?_)
  replace hz₇ : IsZipS h₇ z TI TO (rawInt h₅.objs.size) := hz₇
  refine wpAny_setField_rec hz₇ (by simp) fun h₈ hz₈ hs₈ => ?_
  replace hz₈ : IsZipS h₈ z TI TO (rawInt h₅.objs.size) := hz₈
  have up : ∀ c o, c ≠ z → h₅.get? c = some o → h₈.get? c = some o := fun c o c1 e => hs₈.extBut _ _ c1 (hs₇.extBut _ _ c1 (Heap.get?_push_of_some _ e))
  have hT₈ : IsPair h₈ h₅.objs.size x y := hs₈.extBut _ _ (Nat.ne_of_gt hzlt) (hs₇.extBut _ _ (Nat.ne_of_gt hzlt) (Heap.get?_push_size _ rfl))
  have hz8 : h₈.objs.size = h₅.objs.size + 1 := by rw [hs₈.1, hs₇.1, Heap.size_push]
  rw [hsz] at hz₈ hT₈ hz8
  refine wpAny_pure ⟨_, rfl, ?_⟩
  show Q (.ref h₅.objs.size) _
  rw [hsz]
  exact hQ h₈ hz₈ (up _ _ D.TOz hTO₅) (h1₅.at fun o e => up _ o D.i1z e) (h2₅.at fun o e => up _ o D.i2z e) hT₈ hz8 fun c o c1 c2 c3 c4 e => up c o c1 (hk₅ c o c1 c2 c3 c4 e)

theorem wpAny_stop {Q : Fin → Shared → Prop} (hh : A.handled = none) (hE : ∀ h' e, (∀ c o, s.heap.get? c = some o → h'.get? c = some o) → (∃ o, h'.get? e = some o ∧ o.cls = .type "StopIteration") → E (.ref e) { s with heap := h' }) :
    wpAny (model prog w) A (Builtin.SmallTypes.stopIteration) Q E s := by
  unfold Builtin.SmallTypes.stopIteration
  show wpAny _ _ (newExc (.type "StopIteration") [] >>= _) _ _ _
  refine wpAny_bind ?_
  simp only [newExc, newTuple]
  refine wpAny_bind (wpAny_newObj_type ?_ (by size_fits))
  refine wpAny_bind (m := firstArgMember _ _) (wpAny_of_eq (a := Value.none) (by first | rfl | (simp only [firstArgMember]; rfl)) ?_)
  refine wpAny_newObj_type ?_ (by size_fits)
  simp only [raiseNew]
  refine wpAny_bind (wpAny_handled ?_)
  rw [hh]
  refine wpAny_bind (wpAny_pure (wpAny_throw ?_))
  exact hE _ _ (fun c o e => Heap.get?_push_of_some _ (Heap.get?_push_of_some _ e)) ⟨_, Heap.get?_push_size _ rfl, rfl⟩

theorem zipS_next_end {z TI TO i1 i2 l1 l2 : Addr} {k1 k2 : Nat} {xs ys : Array Value} {a b : Value} {Q : Fin → Shared → Prop} (hh : A.handled = none) (D : ZipApart z TI TO i1 i2 l1 l2)
    (hz : IsZipS s.heap z TI TO .none) (hTI : IsPair s.heap TI (.ref i1) (.ref i2)) (hTO : IsPair s.heap TO a b)
    (h1 : ItI t1 s.heap i1 l1 k1) (h2 : ItI t2 s.heap i2 l2 k2) (hl1 : SqI t1 s.heap l1 xs) (hl2 : SqI t2 s.heap l2 ys) (hx : xs[k1]? = none) (hy : ys[k2]? = none)
    (hE : ∀ h' e, (∀ c o, c ≠ z → c ≠ TO → c ≠ i1 → c ≠ i2 → s.heap.get? c = some o → h'.get? c = some o) → (∃ o, h'.get? e = some o ∧ o.cls = .type "StopIteration") → E (.ref e) { s with heap := h' }) :
    wpAny (model prog w) A (Builtin.«zip.__next__» ⟨[.ref z], []⟩) Q E s := by
  show wpAny _ _ (field (.ref z) 2 >>= _) _ _ _
  refine wpAny_bind (wpAny_field hz rfl (x := .bool true) rfl ?_)
  show wpAny _ _ (field (.ref z) 3 >>= _) _ _ _
  refine wpAny_bind (wpAny_field hz rfl (x := .ref TI) rfl ?_)
  refine wpAny_bind (wpAny_seqItems hTI rfl ?_)
  show wpAny _ _ (Builtin.SmallTypes.ownedTupleIsFree (.ref z) >>= _) _ _ _
  refine wpAny_bind ?_
  unfold Builtin.SmallTypes.ownedTupleIsFree
  refine wpAny_bind (wpAny_field hz rfl (x := .none) rfl (wpAny_pure ?_))
  simp only [if_true]
  refine wpAny_bind (wpAny_rule ?_)
  refine wpAny_bind (wpAny_field hz rfl (x := .ref TO) rfl ?_)
  refine wpAny_bind (wpAny_setField_rec hz (by simp) fun h₁ hz₁ hs₁ => ?_)
  replace hz₁ : IsZipS h₁ z TI TO .ellipsis := hz₁
  refine wpAny_bind ?_
  simp only [List.zipIdx_cons, List.zipIdx_nil, List.forIn_cons, List.forIn_nil]
  refine wpAny_bind (wpAny_bind (wpAny_onRaise ?_))
  show wpAny _ _ (Builtin.SmallTypes.nextOrEnd (.ref i1)) _ _ _
  refine nextI_end hh (h1.at fun o e => hs₁.extBut _ o D.i1z e) (hl1.at fun o e => hs₁.extBut _ o D.l1z e) hx fun h₂ hs₂ => ?_
  have hz₂ : IsZipS h₂ z TI TO .ellipsis := hs₂ _ _ D.i1z.symm hz₁
  refine wpAny_bind (wpAny_setField_rec hz₂ (by simp) fun h₃ _ hs₃ => ?_)
  have hk₃ : ∀ c o, c ≠ z → c ≠ i1 → s.heap.get? c = some o → h₃.get? c = some o := fun c o c1 c2 e => hs₃.extBut _ _ c1 (hs₂ _ _ c2 (hs₁.extBut _ _ c1 e))
  refine wpAny_bind ?_
  show wpAny _ _ (forIn ([(Value.ref i2, 1)] : List (Value × Nat)) _ _ >>= _) _ _ _
  simp only [List.drop_succ_cons, List.drop_zero, List.zipIdx_cons, List.zipIdx_nil, List.forIn_cons, List.forIn_nil]
  refine wpAny_bind (wpAny_bind (wpAny_bind (nextI_end hh ((h2.at fun o e => hk₃ _ o D.i2z D.i12.symm e)) ((hl2.at fun o e => hk₃ _ o D.l2z D.l2i1 e)) hy fun h₄ hs₄ => ?_)))
  simp only [Option.isSome_none, Bool.false_eq_true, if_false]
  refine wpAny_pure (wpAny_pure ?_)
  refine wpAny_bind (wpAny_rule ?_)
  exact wpAny_stop hh fun h' e hk he => hE h' e (fun c o c1 c2 c3 c4 x => hk c o (hs₄ _ _ c4 (hk₃ c o c1 c3 x))) he

theorem pyNext_zipS_item {z TI TO i1 i2 l1 l2 : Addr} {k1 k2 : Nat} {xs ys : Array Value} {x y a b : Value} {Q : Option Value → Shared → Prop} (D : ZipApart z TI TO i1 i2 l1 l2)
    (hz : IsZipS s.heap z TI TO .none) (hTI : IsPair s.heap TI (.ref i1) (.ref i2)) (hTO : IsPair s.heap TO a b)
    (h1 : ItI t1 s.heap i1 l1 k1) (h2 : ItI t2 s.heap i2 l2 k2) (hl1 : SqI t1 s.heap l1 xs) (hl2 : SqI t2 s.heap l2 ys) (hx : xs[k1]? = some x) (hy : ys[k2]? = some y)
    (hQ : ∀ h', IsZipS h' z TI TO (rawInt s.heap.objs.size) → IsPair h' TO x y → ItI t1 h' i1 l1 (k1 + 1) → ItI t2 h' i2 l2 (k2 + 1) → IsPair h' s.heap.objs.size x y → h'.objs.size = s.heap.objs.size + 1 →
      (∀ c o, c ≠ z → c ≠ TO → c ≠ i1 → c ≠ i2 → s.heap.get? c = some o → h'.get? c = some o) → Q (some (.ref s.heap.objs.size)) { s with heap := h' }) :
    wpAny (model prog w) A (pyNext (.ref z)) Q E s := by
  have hT : s.TypeIs (.ref z) "zip" := ⟨_, hz, rfl⟩
  unfold pyNext
  exact wpAny_bind (wpAny_attempt (wpAny_callSpecial?_slot (name := Str.ofString "__next__") hT F.slot_zip_next
    (wpAny_call_entry F.slot_zip_next hT F.entry_zip_next
      (zipS_next_item D hz hTI hTO h1 h2 hl1 hl2 hx hy fun h' a1 a2 a3 a4 a5 a6 a7 => wpAny_pure (hQ h' a1 a2 a3 a4 a5 a6 a7)) (F.args_zip_next_1 _))))
theorem pyNext_zipS_end {z TI TO i1 i2 l1 l2 : Addr} {k1 k2 : Nat} {xs ys : Array Value} {a b : Value} {Q : Option Value → Shared → Prop} (hh : A.handled = none) (D : ZipApart z TI TO i1 i2 l1 l2)
    (hz : IsZipS s.heap z TI TO .none) (hTI : IsPair s.heap TI (.ref i1) (.ref i2)) (hTO : IsPair s.heap TO a b)
    (h1 : ItI t1 s.heap i1 l1 k1) (h2 : ItI t2 s.heap i2 l2 k2) (hl1 : SqI t1 s.heap l1 xs) (hl2 : SqI t2 s.heap l2 ys) (hx : xs[k1]? = none) (hy : ys[k2]? = none)
    (hQ : ∀ h', (∀ c o, c ≠ z → c ≠ TO → c ≠ i1 → c ≠ i2 → s.heap.get? c = some o → h'.get? c = some o) → Q none { s with heap := h' }) : wpAny (model prog w) A (pyNext (.ref z)) Q E s := by
  have hT : s.TypeIs (.ref z) "zip" := ⟨_, hz, rfl⟩
  unfold pyNext
  refine wpAny_bind (wpAny_attempt (wpAny_callSpecial?_slot (name := Str.ofString "__next__") hT F.slot_zip_next
    (wpAny_call_entry F.slot_zip_next hT F.entry_zip_next (zipS_next_end hh D hz hTI hTO h1 h2 hl1 hl2 hx hy fun h' e hk he => ?_) (F.args_zip_next_1 _))))
  obtain ⟨o, ho, hc⟩ := he
  refine wpAny_bind (wpAny_isInstance (T := "StopIteration") (b := true) ⟨o, ho, hc⟩ isSubtype_stop ?_)
  exact wpAny_pure (hQ _ hk)
end

section
variable {prog : Program} {w : World} {A : Around} {E : Value → Shared → Prop} {s : Shared}
theorem letGo_zipS {elts : List Expr} {x1} {pos : Pos} {z TI TO T : Addr} {Q : Unit → Shared → Prop} (hz : IsZipS s.heap z TI TO (rawInt T))
    (hQ : ∀ h', IsZipS h' z TI TO .none → Heap.SameBut z s.heap h' → Q () { s with heap := h' }) :
    wpAny (model prog w) A (letOwnedTupleGo (.Tuple elts x1 pos) (.ref z) (.ref T)) Q E s := by
  unfold letOwnedTupleGo
  refine wpAny_bind (wpAny_load hz ?_)
  show wpAny _ _ (if (["enumerate", "zip", "dict_itemiterator", "dict_reverseitemiterator", "odict_iterator", "itertools.zip_longest", "itertools.pairwise"].contains "zip" &&
      (#[rawInt T, .bool false, .bool true, .ref TI, .ref TO] : Array Value)[0]? == some (rawInt T)) = true then _ else _) Q E s
  rw [if_pos (by simp)]
  refine wpAny_bind (wpAny_rule ?_)
  show wpAny _ _ (setField (.ref z) 0 .none) Q E s
  exact wpAny_setField_rec hz (by simp) fun h' hz' hs' => hQ h' hz' hs'
theorem iter_zipS {z TI TO : Addr} {f0 : Value} {Q : Value → Shared → Prop} (hz : IsZipS s.heap z TI TO f0) (h : Q (.ref z) s) : wpAny (model prog w) A (pyIter (.ref z)) Q E s := by
  have hT : s.TypeIs (.ref z) "zip" := ⟨_, hz, rfl⟩
  refine wpAny_pyIter_slot hT F.slot_zip_iter (wpAny_call_entry F.slot_zip_iter hT F.entry_zip_iter ?_ (F.args_zip_iter_1 _))
  show wpAny _ _ (ret (.ref z)) _ _ s
  exact wpAny_pure ⟨_, rfl, "zip", _, hT, F.slot_zip_next.lookup, h⟩
end
abbrev zsT (h : Heap) (o1 o2 : Obj) : Heap := ((h.push o1).push o2).push { cls := .type "tuple", data := .seq #[.ref h.objs.size, .ref (h.push o1).objs.size] }
abbrev zsO (h : Heap) (o1 o2 : Obj) : Heap := (zsT h o1 o2).push { cls := .type "tuple", data := .seq #[.none, .none] }
abbrev zsZ (h : Heap) (o1 o2 : Obj) : Heap := (zsO h o1 o2).push { cls := .type "zip", data := .fields #[.none, .bool false, .bool true, .ref ((h.push o1).push o2).objs.size, .ref (zsT h o1 o2).objs.size] }
theorem typeCall_zipS (a b : Value) : checkTypeCall "zip" ⟨[a, b], [(Str.ofString "strict", .bool true)]⟩ = pure () := by kernel_rfl
theorem newCall_zipS (a b : Value) : checkBuiltinCall "zip.__new__" ⟨[.type "zip", a, b], [(Str.ofString "strict", .bool true)]⟩ = pure () := by kernel_rfl
theorem args_init_zipS (obj a b : Value) : argsOk "object.__init__" ⟨[obj, a, b], [(Str.ofString "strict", .bool true)]⟩ := by
  unfold argsOk; rw [signature?_of (id := "object.__init__") (n := ['_', '_', 't', 'i', 'n', 'i', '_', '_']) (o := ['t', 'c', 'e', 'j', 'b', 'o']) (by kernel_rfl) F.owner_object]; kernel_rfl
theorem meets_zipS_new {v1 v2 : Value} {o1 o2 : Obj} {H1 H2 : Heap → Prop} (B1 : Begins v1 o1 H1) (B2 : Begins v2 o2 H2) :
    Meets (Builtin.«zip.__new__» ⟨[.type "zip", v1, v2], [(Str.ofString "strict", .bool true)]⟩) (fun _ R s => (H1 s.heap ∧ H2 s.heap) ∧
      R (.ok (.ret (.ref (zsO s.heap o1 o2).objs.size))) { s with heap := zsZ s.heap o1 o2 }) :=
  .of_wp fun prog w A R s h => by
    obtain ⟨hp, g, d, tk, os⟩ := s; obtain ⟨⟨h1, h2⟩, h⟩ := h
    have hsub := sub_zip
    have q1 : ∀ {A' : Around} {E : Value → Shared → Prop} {Q : Value → Shared → Prop}, Q (.ref hp.objs.size) ⟨(hp.push o1), g, d, tk, os⟩ → wpAny (model prog w) A' (pyIter v1) Q E ⟨hp, g, d, tk, os⟩ :=
      fun q => B1.iter prog w _ _ ⟨hp, g, d, tk, os⟩ _ (B1.keeps _ _ h1 fun b o' e => e) q
    have q2 : ∀ {A' : Around} {E : Value → Shared → Prop} {Q : Value → Shared → Prop}, Q (.ref (hp.push o1).objs.size) ⟨((hp.push o1).push o2), g, d, tk, os⟩ → wpAny (model prog w) A' (pyIter v2) Q E ⟨(hp.push o1), g, d, tk, os⟩ :=
      fun q => B2.iter prog w _ _ ⟨(hp.push o1), g, d, tk, os⟩ _ (B2.keeps _ _ h2 fun b o' e => (Heap.get?_push_of_some _ e)) q
    have e1 : (Str.ofString "strict" == ("strict" : Str)) = true := by decide +kernel
    have e2 : (Str.ofString "strict" != ("strict" : Str)) = false := by decide +kernel
    wp_walk using q1, q2
    exact ⟨_, rfl, h⟩
section
variable {prog : Program} {w : World} {A : Around} {E : Value → Shared → Prop} {s : Shared}
theorem call_zipS {v1 v2 : Value} {o1 o2 : Obj} {H1 H2 : Heap → Prop} {Q : Value → Shared → Prop} (B1 : Begins v1 o1 H1) (B2 : Begins v2 o2 H2) (h1 : H1 s.heap) (h2 : H2 s.heap)
    (h : ∀ h', IsZipS h' (s.heap.objs.size + 4) (s.heap.objs.size + 2) (s.heap.objs.size + 3) .none → IsPair h' (s.heap.objs.size + 2) (.ref s.heap.objs.size) (.ref (s.heap.objs.size + 1)) →
      IsPair h' (s.heap.objs.size + 3) .none .none → h'.get? s.heap.objs.size = some o1 → h'.get? (s.heap.objs.size + 1) = some o2 →
      (∀ c o, s.heap.get? c = some o → h'.get? c = some o) → Q (.ref (s.heap.objs.size + 4)) { s with heap := h' }) :
    wpAny (model prog w) A (call (.type "zip") [v1, v2] [(Str.ofString "strict", .bool true)]) Q E s := by
  refine callType_newKw F.called_zip (by decide) (typeCall_zipS _ _) (newCall_zipS _ _) (fun obj => args_init_zipS obj _ _) F.entry_zip_new (meets_zipS_new B1 B2) ⟨⟨h1, h2⟩, ?_⟩
  have z1 : (s.heap.push o1).objs.size = s.heap.objs.size + 1 := by rw [Heap.size_push]
  have z2 : ((s.heap.push o1).push o2).objs.size = s.heap.objs.size + 2 := by rw [Heap.size_push, z1]
  have zT : (zsT s.heap o1 o2).objs.size = s.heap.objs.size + 3 := by rw [Heap.size_push, z2]
  have zO : (zsO s.heap o1 o2).objs.size = s.heap.objs.size + 4 := by rw [Heap.size_push, zT]
  have up : ∀ (h : Heap) (o : Obj) c u, h.get? c = some u → (h.push o).get? c = some u := fun h o c u e => Heap.get?_push_of_some _ e
  have gZ : (zsZ s.heap o1 o2).get? (zsO s.heap o1 o2).objs.size = some { cls := .type "zip", data := .fields #[.none, .bool false, .bool true, .ref ((s.heap.push o1).push o2).objs.size, .ref (zsT s.heap o1 o2).objs.size] } := Heap.get?_push_size _ rfl
  have gO : (zsZ s.heap o1 o2).get? (zsT s.heap o1 o2).objs.size = some { cls := .type "tuple", data := .seq #[.none, .none] } := up _ _ _ _ (Heap.get?_push_size _ rfl)
  have gT : (zsZ s.heap o1 o2).get? ((s.heap.push o1).push o2).objs.size = some { cls := .type "tuple", data := .seq #[.ref s.heap.objs.size, .ref (s.heap.push o1).objs.size] } := up _ _ _ _ (up _ _ _ _ (Heap.get?_push_size _ rfl))
  have g1 : (zsZ s.heap o1 o2).get? s.heap.objs.size = some o1 := up _ _ _ _ (up _ _ _ _ (up _ _ _ _ (up _ _ _ _ (Heap.get?_push_size _ B1.free))))
  have g2 : (zsZ s.heap o1 o2).get? (s.heap.push o1).objs.size = some o2 := up _ _ _ _ (up _ _ _ _ (up _ _ _ _ (Heap.get?_push_size _ B2.free)))
  rw [zO, zT, z2] at gZ
  rw [zT] at gO
  rw [z2, z1] at gT
  rw [z1] at g2
  show _ ∧ _
  rw [zO]
  exact ⟨⟨_, gZ, rfl⟩, h _ gZ gT gO g1 g2 fun c o e => up _ _ _ _ (up _ _ _ _ (up _ _ _ _ (up _ _ _ _ (up _ _ _ _ e))))⟩
end
section
variable {M : Model} {A : Around} {E : Value → Shared → Prop} {s : Shared} {env : Env}
theorem type_kwB {pos : Pos} {T : String} {first : List Value} {args : List (Bool × Sem Value)} {keywords : List (Option Str × Sem Value)} {Q : Value → Shared → Prop}
    (hplain : args.any (·.1) = false) (hkw : keywords.any (·.1.isNone) = false)
    (h : wpAny M A (evalArgs (.type T) true args keywords) (fun a s₁ => wpAny M A (call (.type T) (first ++ a.pos) a.kw) Q E s₁) E s) :
    wpAny M A (callWith pos (.type T) first args keywords) Q E s := by
  unfold callWith
  refine wpAny_bind (wpAny_holding (wpAny_mono h (fun a s₁ h₁ => wpAny_bind (wpAny_standAt ?_)) fun _ _ x => x))
  simp only [hplain, hkw, Bool.or_false]
  refine wpAny_bind (wpAny_pure ?_)
  exact wpAny_bind (wpAny_mono h₁ (fun r s₂ hr => wpAny_bind (wpAny_holding (wpAny_point (wpAny_pure hr)))) fun _ _ x => x)
theorem type_kw {pos : Pos} {T : String} {e : Expr} {rest : List Expr} {kws : List Keyword} {Q : Value → Shared → Prop}
    (h : wpAny M A (spliced (backTo pos (starEach (e :: rest) env))) (fun vs s₁ => wpAny M A (evalAll ((backToKw pos (keywordEach kws env)).map (·.2)))
      (fun kvs s₂ => wpAny M A (call (.type T) vs (((backToKw pos (keywordEach kws env)).filterMap (·.1)).zip kvs)) Q E s₂) E s₁) E s)
    (he : backTo pos (starEach (e :: rest) env) = (false, eval e env) :: backTo pos (starEach rest env) := by rfl)
    (hplain : (backTo pos (starEach (e :: rest) env)).any (·.1) = false := by rfl)
    (hall : (backToKw pos (keywordEach kws env)).all (·.1.isSome) = true := by rfl)
    (hkw : (backToKw pos (keywordEach kws env)).any (·.1.isNone) = false := by rfl) :
    wpAny M A (callWith pos (.type T) [] (backTo pos (starEach (e :: rest) env)) (backToKw pos (keywordEach kws env))) Q E s := by
  refine type_kwB hplain hkw ?_
  rw [he] at h ⊢
  exact PyProof.Rows.evalArgs_kwB hall h
end
end DL
namespace DL
open PySem PySem.Spec PyProof.Rows L2
/-- a list or a tuple as it stands -/
def SqB (K : PySem.W.Frag) (t : Bool) (H : Hp) (a : Addr) (xs : List V) : Prop := if t = true then SqT K H a xs else SqL K H a xs
theorem SqB.run {X : Cx} {t : Bool} {pins : List (Addr × Obj)} {σ : L2.St} {H : Hp} {s : Shared} {a : Addr} {xs : List V} (I : Inv X pins σ H s) (h : SqB X.K t H a xs) : ∃ its : List Value, Vals xs its ∧ SqI t s.heap a its.toArray ∧ a < s.heap.objs.size := by
  cases t
  · obtain ⟨its, rv, p, _⟩ := I.list h
    exact ⟨its, rv, p.isList, p.lt⟩
  · obtain ⟨its, rv, p, _⟩ := I.tuple h
    obtain ⟨o, ho, _⟩ := id p
    exact ⟨its, rv, (show s.heap.IsTuple a its.toArray from p), Heap.lt_size ho⟩
theorem SqB.inj {X : Cx} {t : Bool} {pins : List (Addr × Obj)} {σ : L2.St} {H : Hp} {s : Shared} {a : Addr} {xs ys : List V} (I : Inv X pins σ H s) (h : SqB X.K t H a xs) (k : SqB X.K t H a ys) : xs = ys := by
  cases t
  · exact I.list_inj h k
  · exact I.tuple_inj h k
/-- those at a and b as they stand at each turn, of one length, the items in new pairs -/
def ItzS (K : PySem.W.Frag) (t1 t2 : Bool) (a b : Addr) : It :=
  ⟨fun i H => ∃ (xs ys : List V) (x y : V), SqB K t1 H a xs ∧ SqB K t2 H b ys ∧ xs[i]? = some x ∧ ys[i]? = some y,
    fun i H v H' => ∃ T x y, v = .ref T ∧ H T = none ∧ H' = upd H T (.tup [x, y]) ∧ (∀ xs, SqB K t1 H a xs → xs[i]? = some x) ∧ ∀ ys, SqB K t2 H b ys → ys[i]? = some y,
    fun i H => ∃ xs ys : List V, SqB K t1 H a xs ∧ SqB K t2 H b ys ∧ xs.length ≤ i ∧ ys.length ≤ i⟩
theorem turn_zipS {P : Program} {w : World} {K : PySem.W.Frag} {t1 t2 : Bool} {elts : List Expr} {kk : Nat} {tpos : Pos} {a b z TI TO i1 i2 : Addr} (D : ZipApart z TI TO i1 i2 a b) :
    Turn P w K (.Tuple elts kk tpos) (ItzS K t1 t2 a b) [z, TI, TO, i1, i2] z (fun i h => IsZipS h z TI TO .none ∧ IsPair h TI (.ref i1) (.ref i2) ∧ (∃ x y, IsPair h TO x y) ∧ ItI t1 h i1 a i ∧ ItI t2 h i2 b i) where
  mem := by simp
  obj := fun i h st c hc => by
    obtain ⟨hz, hTI, ⟨x, y, hTO⟩, h1, h2⟩ := st
    have e' : c = z ∨ c = TI ∨ c = TO ∨ c = i1 ∨ c = i2 := by simpa using hc
    rcases e' with q | q | q | q | q
    · rw [q]; exact ⟨_, hz, fun v q => nomatch q⟩
    · rw [q]; exact ⟨_, hTI, fun v q => nomatch q⟩
    · rw [q]; exact ⟨_, hTO, fun v q => nomatch q⟩
    · rw [q]; exact h1.obj
    · rw [q]; exact h2.obj
  keep := fun i h h' st k => by
    obtain ⟨hz, hTI, ⟨x, y, hTO⟩, h1, h2⟩ := st
    exact ⟨k z (by simp) _ hz, k TI (by simp) _ hTI, ⟨x, y, k TO (by simp) _ hTO⟩, h1.at fun o q => k i1 (by simp) o q, h2.at fun o q => k i2 (by simp) o q⟩
  item := by
    intro X hP hw hK hc i pins s σ H E I hf st hg
    subst hP hw hK
    obtain ⟨hz, hTI, ⟨x0, y0, hTO⟩, h1, h2⟩ := st
    obtain ⟨xs, ys, x, y, hqx, hqy, hx, hy⟩ := hg
    obtain ⟨its, rv, p, _⟩ := hqx.run I
    obtain ⟨its2, rv2, p2, _⟩ := hqy.run I
    obtain ⟨u, hu, ru⟩ := rv.get hx
    obtain ⟨u2, hu2, ru2⟩ := rv2.get hy
    have hzl : z < s.heap.objs.size := Heap.lt_size hz
    refine pyNext_zipS_item D hz hTI hTO h1 h2 p p2 (x := u) (y := u2) (by simpa using hu) (by simpa using hu2) fun h' z' TO' h1' h2' hT hsz hk => ?_
    refine ⟨_, rfl, letGo_zipS (s := { s with heap := h' }) z' fun h'' z'' sb => ?_⟩
    have hT2 : h''.get? s.heap.objs.size = some { cls := .type "tuple", data := .seq #[u, u2] } := (sb.2 _ (Nat.ne_of_gt hzl)).trans hT
    have new : ObjOk X.prog X.w (upd H s.heap.objs.size (.tup [x, y])) h'' s.heap.objs.size (.tup [x, y]) :=
      ⟨by show 2 ≤ sizeLine; decide, [u, u2], .cons ru (.cons ru2 .nil), ⟨_, hT2, rfl, _, rfl⟩⟩
    have I1 : Inv X pins σ (upd H s.heap.objs.size (.tup [x, y])) { s with heap := h'' } :=
      I.turnedNew (t' := s.toks) (ch := [z, TI, TO, i1, i2]) (fun c o hb q => (sb.2 c (fun q' => hb (by simp [q']))).trans (hk c o (fun q' => hb (by simp [q'])) (fun q' => hb (by simp [q'])) (fun q' => hb (by simp [q'])) (fun q' => hb (by simp [q'])) q)) hf (Nat.le_refl _) new
    refine ⟨.ref s.heap.objs.size, _, I1, rfl, ⟨_, x, y, rfl, I.hok.fresh (Nat.le_refl _), rfl, fun l hl => by rw [hl.inj I hqx]; exact hx, fun l hl => by rw [hl.inj I hqy]; exact hy⟩, ⟨z'', ?_, ⟨u, u2, ?_⟩, ?_, ?_⟩, fun c hcm => ?_⟩
    · exact (sb.2 _ D.TIz).trans (hk _ _ D.TIz D.TITO D.TIi1 D.TIi2 hTI)
    · exact (sb.2 _ D.TOz).trans TO'
    · exact h1'.at fun o q => (sb.2 _ D.i1z).trans q
    · exact h2'.at fun o q => (sb.2 _ D.i2z).trans q
    · have hlt : c < s.heap.objs.size := by
        have e' : c = z ∨ c = TI ∨ c = TO ∨ c = i1 ∨ c = i2 := by simpa using hcm
        rcases e' with q | q | q | q | q
        · rw [q]; exact hzl
        · rw [q]; exact Heap.lt_size hTI
        · rw [q]; exact Heap.lt_size hTO
        · rw [q]; obtain ⟨_, e1, _⟩ := h1.obj; exact Heap.lt_size e1
        · rw [q]; obtain ⟨_, e2, _⟩ := h2.obj; exact Heap.lt_size e2
      rw [upd_ne (Nat.ne_of_lt hlt)]
      exact (hf c hcm).1
  done := by
    intro X hP hw hK hc i pins s σ H E I hf st hg
    subst hP hw hK
    obtain ⟨hz, hTI, ⟨x0, y0, hTO⟩, h1, h2⟩ := st
    obtain ⟨xs, ys, hqx, hqy, e1, e2⟩ := hg
    obtain ⟨its, rv, p, _⟩ := hqx.run I
    obtain ⟨its2, rv2, p2, _⟩ := hqy.run I
    have l1 := rv.length
    have l2 := rv2.length
    exact pyNext_zipS_end (I.ok.hd hc) D hz hTI hTO h1 h2 p p2 (by simp; omega) (by simp; omega) fun h' hk => ⟨rfl, I.turnedL (t' := s.toks) (ch := [z, TI, TO, i1, i2]) (fun c o hb q =>
      hk c o (fun q' => hb (by simp [q'])) (fun q' => hb (by simp [q'])) (fun q' => hb (by simp [q'])) (fun q' => hb (by simp [q'])) q) hf⟩
  self := fun A i s Q E st h => iter_zipS st.1 h

def itO (t : Bool) (l : Addr) : Obj := { cls := .type (if t = true then "tuple_iterator" else "list_iterator"), data := .fields #[.ref l, .int 0 0] }
theorem begins_B (t : Bool) (l : Addr) (items : Array Value) : Begins (.ref l) (itO t l) fun h => SqI t h l items := by
  cases t
  · exact begins_list l items
  · exact begins_tuple l items
theorem itI_0 {t : Bool} {h : Heap} {it l : Addr} (e : h.get? it = some (itO t l)) : ItI t h it l 0 := by
  cases t
  · exact ⟨_, e, rfl, rfl⟩
  · exact ⟨_, e, rfl, rfl⟩
def iZipS (K : PySem.W.Frag) (ta : TA) : TI := fun σ H R => ta σ H fun vs H1 => ∃ t1 t2 a b xs ys, vs = [.ref a, .ref b] ∧ SqB K t1 H1 a xs ∧ SqB K t2 H1 b ys ∧ R (ItzS K t1 t2 a b) H1
theorem pi_zipS {X : Cx} {e e2 : Expr} {ta : TA} {p pos tpos cp kp : Pos} {j : Nat} {elts : List Expr} {kk : Nat} (hg : Gl X "zip") (hm : X.mg "zip" = none) (ha : PA X [e, e2] ta)
    (hs : starEach [e, e2] X.env = (false, eval e X.env) :: starEach [e2] X.env := by rfl) (hs2 : starEach [e2] X.env = [(false, eval e2 X.env)] := by rfl) :
    PI X (.Tuple elts kk tpos) (.Call (.Name "zip" p) [e, e2] [⟨some "strict", .Constant (.bool true) j cp, kp⟩] pos) (iZipS X.K ta) := by
  refine ⟨fun pins s σ H R I h => ?_⟩
  refine wpAny_Call_Name_kw (ld_blt I hg hm PyProof.Rows.boot_zip (type_kw (thn (ha.run pos pins s σ H _ I h) fun us s1 ⟨vs, H1, I1, r1, q1⟩ => ?_) (by rw [hs]; rfl) (by rw [hs, hs2]; rfl)))
  obtain ⟨t1, t2, a, b, xs, ys, ex, hqx, hqy, q⟩ := q1
  subst ex
  refine PyProof.Rows.kws_cons (Constant_bool (PyProof.Rows.kws_nil ?_))
  cases r1 with
  | cons r rr =>
    cases rr with
    | cons r' rr =>
      cases rr
      cases r
      cases r'
      have fresh5 : ∀ c, c ∈ [s1.heap.objs.size + 4, s1.heap.objs.size + 2, s1.heap.objs.size + 3, s1.heap.objs.size, s1.heap.objs.size + 1] → FpOk X pins H1 c := fun c hcm => by
        have e' : c = s1.heap.objs.size + 4 ∨ c = s1.heap.objs.size + 2 ∨ c = s1.heap.objs.size + 3 ∨ c = s1.heap.objs.size ∨ c = s1.heap.objs.size + 1 := by simpa using hcm
        have hle : s1.heap.objs.size ≤ c := by omega
        exact I1.fpOk hle (I1.hok.fresh hle)
      obtain ⟨its, rv, p1, l1⟩ := hqx.run I1
      obtain ⟨its2, rv2, p2, l2⟩ := hqy.run I1
      refine call_zipS (begins_B t1 a _) (begins_B t2 b _) p1 p2 fun h' hz hTI hTO h1 h2 hk => iter_zipS hz ?_
      have I2 : Inv X pins σ H1 { s1 with heap := h' } := I1.kept (t' := s1.toks) hk
      exact ⟨s1.heap.objs.size + 4, [s1.heap.objs.size + 4, s1.heap.objs.size + 2, s1.heap.objs.size + 3, s1.heap.objs.size, s1.heap.objs.size + 1], _, _, H1, rfl, I2, turn_zipS (PySem.W.ktu_apart s1.heap.objs.size a b l1 l2), ⟨hz, hTI, ⟨_, _, hTO⟩, itI_0 h1, itI_0 h2⟩, fresh5, q⟩
end DL

namespace DL
open PySem PySem.Spec PyProof.Rows L2
/-! zip as a source -/
def sqD : D → Option (Bool × List D)
  | .tup ds => some (true, ds)
  | .lst ds => some (false, ds)
  | .scr ds => some (false, ds)
  | _ => none
def pairs (xs ys : List D) : List D := List.zipWith (fun x y => D.tup [x, y]) xs ys
def mZipS (m : MA) : MI := fun Γ M => (m Γ M).bind fun ds M1 => match ds with
  | [d, e] => match sqD d, sqD e with
    | some (_, xs), some (_, ys) => if xs.length = ys.length then .ok (pairs xs ys, kT) M1 else .stuck
    | _, _ => .stuck
  | _ => .stuck
def mZip (m : MA) : MI := fun Γ M => (m Γ M).bind fun ds M1 => match ds with
  | [d, e] => match sqD d, sqD e with
    | some (k, xs), some (l, ys) => if k = l then .ok (pairs xs ys, kT) M1 else .stuck
    | _, _ => .stuck
  | _ => .stuck
section
variable {K : PySem.W.Frag} {mg : Str → Option Value} {F : Hp} {ρ : List Addr} {M : Sto} {H : Hp}
theorem SqB.mono {F F' : Hp} {t : Bool} {a : Addr} {vs : List V} (s : Sub F F') (h : SqB K t F a vs) : SqB K t F' a vs := by
  cases t
  · exact s.sqL h
  · exact s.sqT h
theorem sqD_rep {d : D} {v : V} {t : Bool} {ds : List D} (r : Rep K mg F ρ d v) (st : StOk K mg F ρ M H) (h : sqD d = some (t, ds)) : ∃ a vs, v = .ref a ∧ SqB K t F a vs ∧ Reps K mg F ρ ds vs ∧ vs.length ≤ sizeLine := by
  cases d with
  | tup xs =>
    cases h
    obtain ⟨a, vs, e, q, rr⟩ := r.tup
    exact ⟨a, vs, e, q, rr, st.szT a vs q⟩
  | lst xs =>
    cases h
    obtain ⟨a, vs, e, q, rr⟩ := r.lst
    exact ⟨a, vs, e, SqL.of q, rr, st.szL a vs (SqL.of q)⟩
  | scr xs =>
    cases h
    obtain ⟨a, vs, e, q, rr⟩ := r.scr
    exact ⟨a, vs, e, q, rr, st.szL a vs q⟩
  | _ => cases h
theorem pairs_get {xs ys : List D} {i : Nat} {d : D} (h : (pairs xs ys)[i]? = some d) : ∃ x y, xs[i]? = some x ∧ ys[i]? = some y ∧ d = .tup [x, y] := by
  simp only [pairs, List.getElem?_zipWith] at h
  cases hx : xs[i]? with
  | none => rw [hx] at h; cases h
  | some x =>
    cases hy : ys[i]? with
    | none => rw [hx, hy] at h; cases h
    | some y =>
      rw [hx, hy] at h
      cases h
      exact ⟨x, y, rfl, rfl, rfl⟩
theorem jok_zipS {t1 t2 : Bool} {a b : Addr} {vs us : List V} {ds es : List D} (h1 : SqB K t1 F a vs) (h2 : SqB K t2 F b us) (r1 : Reps K mg F ρ ds vs) (r2 : Reps K mg F ρ es us) (z : vs.length ≤ sizeLine) (hl : ds.length = es.length) :
    JOk K mg F ρ (pairs ds es, kT) (ItzS K t1 t2 a b) := by
  have l1 := r1.len
  have l2 := r2.len
  have hp : (pairs ds es).length = ds.length := by simp [pairs, hl]
  refine ⟨by rw [hp, ← l1]; exact z, fun F1 ρ1 M1 H1 i s p st _ => ⟨fun d hd => ?_, fun hi => ?_⟩⟩
  · obtain ⟨x, y, hx, hy, rfl⟩ := pairs_get hd
    obtain ⟨v, hv, rv⟩ := r1.get hx
    obtain ⟨u, hu, ru⟩ := r2.get hy
    refine ⟨⟨vs, us, v, u, (h1.mono s).mono st.sub, (h2.mono s).mono st.sub, hv, hu⟩, fun x' H' yy => ?_⟩
    obtain ⟨T, x1, y1, rfl, hT, rfl, f1, f2⟩ := yy
    have e1 := f1 vs ((h1.mono s).mono st.sub)
    have e2 := f2 us ((h2.mono s).mono st.sub)
    rw [hv] at e1; cases e1
    rw [hu] at e2; cases e2
    obtain ⟨st2, gr2⟩ := st.lay (o := .tup [v, u]) hT (by show 2 ≤ sizeLine; decide)
    exact ⟨_, gr2, st2, rep_tup upd_same (.cons ((rv.mono s p).mono gr2.f gr2.r) (.cons ((ru.mono s p).mono gr2.f gr2.r) .nil))⟩
  · rw [hp] at hi
    exact ⟨vs, us, (h1.mono s).mono st.sub, (h2.mono s).mono st.sub, by omega, by omega⟩
theorem jok_zipL {a b : Addr} {vs us : List V} {ds es : List D} (h1 : SqL K F a vs) (h2 : SqL K F b us) (r1 : Reps K mg F ρ ds vs) (r2 : Reps K mg F ρ es us) (z : vs.length ≤ sizeLine) :
    JOk K mg F ρ (pairs ds es, kT) (L2.Itz K a b) := by
  have l1 := r1.len
  have l2 := r2.len
  have hp : (pairs ds es).length = min ds.length es.length := by simp [pairs]
  refine ⟨by rw [hp, ← l1]; exact Nat.le_trans (Nat.min_le_left _ _) z, fun F1 ρ1 M1 H1 i s p st _ => ⟨fun d hd => ?_, fun hi => ?_⟩⟩
  · obtain ⟨x, y, hx, hy, rfl⟩ := pairs_get hd
    obtain ⟨v, hv, rv⟩ := r1.get hx
    obtain ⟨u, hu, ru⟩ := r2.get hy
    refine ⟨⟨vs, us, v, u, st.sub.sqL (s.sqL h1), st.sub.sqL (s.sqL h2), hv, hu⟩, fun x' H' yy => ?_⟩
    obtain ⟨T, x1, y1, rfl, hT, rfl, f1, f2⟩ := yy
    have e1 := f1 vs (st.sub.sqL (s.sqL h1))
    have e2 := f2 us (st.sub.sqL (s.sqL h2))
    rw [hv] at e1; cases e1
    rw [hu] at e2; cases e2
    obtain ⟨st2, gr2⟩ := st.lay (o := .tup [v, u]) hT (by show 2 ≤ sizeLine; decide)
    exact ⟨_, gr2, st2, rep_tup upd_same (.cons ((rv.mono s p).mono gr2.f gr2.r) (.cons ((ru.mono s p).mono gr2.f gr2.r) .nil))⟩
  · rw [hp] at hi
    exact ⟨vs, us, st.sub.sqL (s.sqL h1), st.sub.sqL (s.sqL h2), by omega⟩
theorem jok_zipT {a b : Addr} {vs us : List V} {ds es : List D} (h1 : SqT K F a vs) (h2 : SqT K F b us) (r1 : Reps K mg F ρ ds vs) (r2 : Reps K mg F ρ es us) (z : vs.length ≤ sizeLine) :
    JOk K mg F ρ (pairs ds es, kT) (RZ.ItzT K a b) := by
  have l1 := r1.len
  have l2 := r2.len
  have hp : (pairs ds es).length = min ds.length es.length := by simp [pairs]
  refine ⟨by rw [hp, ← l1]; exact Nat.le_trans (Nat.min_le_left _ _) z, fun F1 ρ1 M1 H1 i s p st _ => ⟨fun d hd => ?_, fun hi => ?_⟩⟩
  · obtain ⟨x, y, hx, hy, rfl⟩ := pairs_get hd
    obtain ⟨v, hv, rv⟩ := r1.get hx
    obtain ⟨u, hu, ru⟩ := r2.get hy
    refine ⟨⟨vs, us, v, u, st.sub.sqT (s.sqT h1), st.sub.sqT (s.sqT h2), hv, hu⟩, fun x' H' yy => ?_⟩
    obtain ⟨T, x1, y1, rfl, hT, rfl, f1, f2⟩ := yy
    have e1 := f1 vs (st.sub.sqT (s.sqT h1))
    have e2 := f2 us (st.sub.sqT (s.sqT h2))
    rw [hv] at e1; cases e1
    rw [hu] at e2; cases e2
    obtain ⟨st2, gr2⟩ := st.lay (o := .tup [v, u]) hT (by show 2 ≤ sizeLine; decide)
    exact ⟨_, gr2, st2, rep_tup upd_same (.cons ((rv.mono s p).mono gr2.f gr2.r) (.cons ((ru.mono s p).mono gr2.f gr2.r) .nil))⟩
  · rw [hp] at hi
    exact ⟨vs, us, st.sub.sqT (s.sqT h1), st.sub.sqT (s.sqT h2), by omega⟩
end
section
variable {X : Cx} {W : WX} {a b : Expr} {ms : MA} {p pos tpos cp kp : Pos} {j : Nat} {elts : List Expr} {kk : Nat}
theorem si_zipS (hg : Gl X "zip") (hm : X.mg "zip" = none) (ha : SA X W ms [a, b])
    (hs : starEach [a, b] X.env = (false, eval a X.env) :: starEach [b] X.env := by rfl) (hs2 : starEach [b] X.env = [(false, eval b X.env)] := by rfl) :
    SI X W (mZipS ms) (.Tuple elts kk tpos) (.Call (.Name "zip" p) [a, b] [⟨some "strict", .Constant (.bool true) j cp, kp⟩] pos) :=
  (pi_zipS hg hm ha hs hs2).imp fun σ H R ⟨F, ρ, Γ, M, g, st, h⟩ => ⟨F, ρ, Γ, M, g, st, h.bind.imp fun F1 ρ1 M1 H1 ds vs gr st1 rv h1 => by
    split at h1
    · split at h1
      · rename_i e1 e2
        obtain ⟨hl, h1⟩ := iff_elim h1
        obtain ⟨v, r, rfl, r1, r2⟩ := rv.inv_cons
        obtain ⟨u, r', rfl, r3, r4⟩ := r2.inv_cons
        rw [r4.inv_nil]
        obtain ⟨a1, xs, rfl, q1, rr1, z1⟩ := sqD_rep r1 st1 e1
        obtain ⟨a2, ys, rfl, q2, rr2, z2⟩ := sqD_rep r3 st1 e2
        exact ⟨_, _, a1, a2, xs, ys, rfl, q1.mono st1.sub, q2.mono st1.sub, AftK.ok h1 st1 (jok_zipS q1 q2 rr1 rr2 z1 hl)⟩
      · exact h1.elim
    · exact h1.elim⟩
theorem si_zip (hg : Gl X "zip") (hm : X.mg "zip" = none) (ha : SA X W ms [a, b])
    (hs : starEach [a, b] X.env = (false, eval a X.env) :: starEach [b] X.env := by rfl) (hpl : (backTo pos (starEach [b] X.env)).any (·.1) = false := by rfl) :
    SI X W (mZip ms) (.Tuple elts kk tpos) (.Call (.Name "zip" p) [a, b] [] pos) :=
  (RZ.pi_zipA hg hm ha hs hpl).imp fun σ H R ⟨F, ρ, Γ, M, g, st, h⟩ => ⟨F, ρ, Γ, M, g, st, h.bind.imp fun F1 ρ1 M1 H1 ds vs gr st1 rv h1 => by
    split at h1
    · split at h1
      · rename_i k xs' l ys' e1 e2
        obtain ⟨hl, h1⟩ := iff_elim h1
        subst hl
        obtain ⟨v, r, rfl, r1, r2⟩ := rv.inv_cons
        obtain ⟨u, r', rfl, r3, r4⟩ := r2.inv_cons
        rw [r4.inv_nil]
        obtain ⟨a1, xs, rfl, q1, rr1, z1⟩ := sqD_rep r1 st1 e1
        obtain ⟨a2, ys, rfl, q2, rr2, z2⟩ := sqD_rep r3 st1 e2
        refine ⟨a1, a2, xs, ys, rfl, ?_⟩
        cases k
        · exact .inl ⟨st1.sub.sqL q1, st1.sub.sqL q2, AftK.ok h1 st1 (jok_zipL q1 q2 rr1 rr2 z1)⟩
        · exact .inr ⟨st1.sub.sqT q1, st1.sub.sqT q2, AftK.ok h1 st1 (jok_zipT q1 q2 rr1 rr2 z1)⟩
      · exact h1.elim
    · exact h1.elim⟩
end
end DL

namespace DL
open PySem PySem.Spec PyProof.Rows L2
/-! products -/
/-- a tuple taken once is itself -/
theorem tuple_once (l : Addr) (items : Array Value) (n : Nat) (dd : Option Addr) (sl : Array (Option Value)) (u : Tok) :
    Meets (Builtin.«tuple.__mul__» ⟨[.ref l, .int 1 u], []⟩) (fun _ R s => s.heap.get? l = some { cls := .type "tuple", dict := dd, data := .seq items n, slots := sl } ∧
      R (.ok (.ret (Value.ref l))) s) :=
  .of_wp fun prog w A R s h => by
    obtain ⟨hp, g, d, tk, os⟩ := s
    obtain ⟨hl, h⟩ := h
    have f1 := AutoSeq1.idx_int
    have c1 : (items.isEmpty || (1 : Int) == 1) = true := by simp
    wp_walk using wpAny_loadPart' hl
    exact ⟨_, rfl, h⟩
def rRep1 (K : PySem.W.Frag) : R2 := fun x y H Q => ∃ l xs, x = .ref l ∧ y = .int 1 ∧ SqT K H l xs ∧ Q (.ref l) H
section
variable {X : Cx}
theorem op_rep1 : OpR X (binaryOp .Mult) (rRep1 X.K) := by
  intro pins s σ H x y v u Q I rx ry h
  obtain ⟨l, xs, rfl, rfl, hT, q⟩ := h
  cases rx
  obtain ⟨t, rfl⟩ := ry
  obtain ⟨its, r, ⟨⟨cls, dd, data, sl⟩, ho, hc, n, hd⟩, hs⟩ := I.tuple hT
  simp only at hc hd
  subst hc hd
  refine wpAny_binaryOp_repeat_ref (T := "tuple") (U := "int") (by decide) ⟨_, ho, rfl⟩ (fun s' => typeIs_int s' 1 t) noFill_tuple_mul F.fills_int_mul F.slot_int_rmul repeat_tuple F.slot_int_index.lookup
    (call_meets F.slot_int_rmul (typeIs_int s 1 t) F.entry_int_rmul (F.args_int_rmul_2 _ _) (int_rmul_tuple 1 t l its.toArray n dd sl)
      ⟨ho, rfl, ⟨_, ho, rfl⟩, call_meets F.slot_tuple_mul ⟨_, ho, rfl⟩ F.entry_tuple_mul (F.args_tuple_mul_2 _ _) (tuple_once l its.toArray n dd sl t) ⟨ho, ?_⟩⟩)
  exact ⟨.ref l, H, I, rfl, q⟩
def rMulB (K : PySem.W.Frag) : R2 := fun x y H Q => rI CMul (fun i j => .int (i * j)) x y H Q ∨ rI CMulW (fun i j => .int (i * j)) x y H Q ∨ rRepT K x y H Q ∨ rRep1 K x y H Q ∨ rRep x y H Q
theorem op_mulB : OpR X (binaryOp .Mult) (rMulB X.K) := op_mul.or (op_mulW.or (op_repT.or (op_rep1.or op_rep)))
end
def fMul (d e : D) (M : Sto) : Res D := match d, e with
  | .int i, .int j => if mulOk i j = true then .ok (.int (i * j)) M else .stuck
  | .tup ds, .int k => if k = 1 then .ok (.tup ds) M else if (ds ≠ [] ∧ 2 ≤ k ∧ k ≤ 1000 ∧ ds.length ≤ 1000) then .ok (.tup (List.replicate k.toNat ds).flatten) M else .stuck
  | .lst ds, .int k => if 0 ≤ k ∧ k ≤ 1000 ∧ ds.length ≤ 1000 then .ok (.lst (List.replicate k.toNat ds).flatten) M else .stuck
  | _, _ => .stuck
theorem Reps.rep {K : PySem.W.Frag} {mg : Str → Option Value} {F : Hp} {ρ : List Addr} {ds : List D} {vs : List V} (h : Reps K mg F ρ ds vs) : ∀ k : Nat, Reps K mg F ρ (List.replicate k ds).flatten (List.replicate k vs).flatten
  | 0 => .nil
  | k + 1 => by simpa [List.replicate_succ] using h.append (Reps.rep h k)
theorem ops_mul {K : PySem.W.Frag} {mg : Str → Option Value} : OpS K mg (rMulB K) fMul := by
  intro F ρ M H d e v u W Q st r r' h
  unfold fMul at h
  split at h
  · rename_i i j
    obtain ⟨hc, h⟩ := iff_elim h
    unfold mulOk at hc
    simp only [Bool.or_eq_true, decide_eq_true_eq] at hc
    rcases hc with (hc | hc) | hc
    · exact .inl ⟨_, _, r.int, r'.int, .inl ⟨by omega, by omega⟩, AftK.ok h st (rep_int _)⟩
    · exact .inl ⟨_, _, r.int, r'.int, .inr ⟨by omega, by omega⟩, AftK.ok h st (rep_int _)⟩
    · exact .inr (.inl ⟨_, _, r.int, r'.int, hc, AftK.ok h st (rep_int _)⟩)
  · rename_i ds k
    obtain ⟨a, vs, rfl, ha, ra⟩ := r.tupF
    split at h
    · rename_i hk
      subst hk
      exact .inr (.inr (.inr (.inl ⟨a, vs, rfl, r'.int, st.sub.sqT (SqT.of ha), AftK.ok h st (rep_tup ha ra)⟩)))
    · obtain ⟨⟨h1, h2, h3, h4⟩, h⟩ := iff_elim h
      refine .inr (.inr (.inl ⟨a, k, vs, rfl, r'.int, st.sub.sqT (SqT.of ha), fun e => h1 (List.eq_nil_of_length_eq_zero (by rw [← ra.len, e]; rfl)), h2, h3, by rw [ra.len]; exact h4, fun p n => ?_⟩))
      have z : ((List.replicate k.toNat vs).flatten).length ≤ sizeLine := by
        rw [PyProof.Rows.lm_len_rep_flat, ra.len, sizeLine_eq]
        have a1 : k.toNat * ds.length ≤ 1000 * 1000 := Nat.mul_le_mul (by omega) h4
        omega
      obtain ⟨st2, gr2⟩ := st.lay (o := .tup (List.replicate k.toNat vs).flatten) n z
      exact h _ _ _ _ gr2 st2 (rep_tup upd_same ((ra.rep k.toNat).mono gr2.f gr2.r))
  · rename_i ds k
    obtain ⟨⟨h2, h3, h4⟩, h⟩ := iff_elim h
    obtain ⟨a, vs, rfl, ha, ra⟩ := r.lst
    have z : vs.length * k.toNat ≤ sizeLine := by
      rw [ra.len, sizeLine_eq]
      have a1 : ds.length * k.toNat ≤ 1000 * 1000 := Nat.mul_le_mul h4 (by omega)
      omega
    refine .inr (.inr (.inr (.inr ⟨a, k, vs, rfl, r'.int, st.sub _ _ ha, by omega, by omega, z, fun p n => ?_⟩)))
    obtain ⟨st2, gr2⟩ := st.lay (o := .lst (List.replicate k.toNat vs).flatten) n (by
      show ((List.replicate k.toNat vs).flatten).length ≤ sizeLine
      rw [PyProof.Rows.lm_len_rep_flat, Nat.mul_comm]; exact z)
    exact h _ _ _ _ gr2 st2 (rep_lst (by exact upd_same) ((ra.rep k.toNat).mono gr2.f gr2.r))
  · exact h.elim
end DL

namespace DL
open PySem PySem.Spec PyProof.Rows L2
/-! slices with a step, a def without room, facts of the built-ins' names -/
theorem fnD_stuck {P : Program} {w : World} {K : PySem.W.Frag} {mg : Str → Option Value} {base : Heap} {k : Nat} {f : Addr} {fd : FuncData} {ps : List Str} : FnD P w K mg base k f fd ps (fun _ _ => .stuck) :=
  ⟨fun vs H Q E ⟨F, ρ, M, ds, r, hl, st, h⟩ => h.elim, fun A outer s H args us vs Q E hr he hb hv ⟨F, ρ, M, ds, r, hl, st, h⟩ => h.elim⟩
/-- turns of a while, told as one number that no reading opens -/
def fuel : Nat := 1000
theorem bt_len : bootBuiltins "len" = some (.builtin "len") := by decide +kernel
theorem bt_sum : bootBuiltins "sum" = some (.builtin "sum") := by decide +kernel
theorem bt_abs : bootBuiltins "abs" = some (.builtin "abs") := by decide +kernel
theorem bt_max : bootBuiltins "max" = some (.builtin "max") := by decide +kernel
theorem bt_min : bootBuiltins "min" = some (.builtin "min") := by decide +kernel
theorem bt_repr : bootBuiltins "repr" = some (.builtin "repr") := by decide +kernel
theorem bt_int : bootBuiltins "int" = some (.type "int") := by decide +kernel
theorem bt_bool : bootBuiltins "bool" = some (.type "bool") := by decide +kernel
theorem bt_str : bootBuiltins "str" = some (.type "str") := by decide +kernel
theorem bt_list : bootBuiltins "list" = some (.type "list") := by decide +kernel
theorem bt_tuple : bootBuiltins "tuple" = some (.type "tuple") := by decide +kernel

/-- xs[lo::st] -/
def stepD {α : Type} (lo st : Nat) (ds : List α) : List α := (sliceRange (min (lo : Int) (ds.length : Int)) ds.length st).filterMap (ds[·]?)
def tStep (K : PySem.W.Frag) (lo st : Nat) (te : TE) : TE := fun σ H Q => te σ H fun x H1 => ∃ a xs, x = .ref a ∧ SqL K H1 a xs ∧ ∀ p, H1 p = none → Q (.ref p) (upd H1 p (.lst (stepD lo st xs)))
theorem stepD_rel {α β : Type} {R : α → β → Prop} {xs : List α} {ys : List β} (hl : xs.length = ys.length) (h : ∀ (i : Nat) (x : α), xs[i]? = some x → ∃ y, ys[i]? = some y ∧ R x y) {lo st : Nat} : Paired R (stepD lo st xs) (stepD lo st ys) := by
  unfold stepD
  rw [hl]
  generalize sliceRange (min (lo : Int) (ys.length : Int)) ys.length st = is
  induction is with
  | nil => exact .nil
  | cons i is ih =>
    simp only [List.filterMap_cons]
    cases hx : xs[i]? with
    | none =>
      have : ys[i]? = none := by rw [List.getElem?_eq_none_iff] at hx ⊢; omega
      rw [this]
      exact ih
    | some x =>
      obtain ⟨y, hy, r⟩ := h i x hx
      rw [hy]
      exact .cons r ih
theorem sliceRange_len {a b : Int} {n st : Nat} (h0 : 0 ≤ a) (hb : b ≤ n) (hs : 0 < st) : (sliceRange a b st).length ≤ n := by
  unfold sliceRange
  rw [List.length_map, List.length_range, if_pos (by omega)]
  split
  · have := ceilDiv_le (b - a) st (by omega) (by omega)
    have e : (b - a + (st : Int) - 1) / (st : Int) ≤ b - a := this
    omega
  · simp
theorem stepD_len {α : Type} {lo st : Nat} (hs : 0 < st) (xs : List α) : (stepD lo st xs).length ≤ xs.length := by
  unfold stepD
  refine Nat.le_trans (List.length_filterMap_le _ _) (sliceRange_len (by omega) (by omega) hs)
theorem pick_step (items : List Value) (lo : Option Int) (l st : Nat) (hs : 0 < st) (hl : (lo = none ∧ l = 0) ∨ lo = some (l : Int)) : slicePick items.toArray lo none (some (st : Int)) = (stepD l st items).toArray := by
  unfold slicePick stepD
  have e : sliceBounds lo none (some (st : Int)) items.toArray.size = (min (l : Int) (items.length : Int), (items.length : Int), (st : Int)) := by
    have h1 : (st : Int) > 0 := by omega
    rcases hl with ⟨rfl, rfl⟩ | rfl
    · simp [sliceBounds, h1]
      omega
    · simp [sliceBounds, h1]
      omega
  rw [e]
  simp
section
variable {X : Cx}
theorem pe_step {e : Expr} {te : TE} {lo : Option Expr} {k : Nat} {p1 p3 pos : Pos} {l st : Nat} (hs : 0 < st) (he : PE X e te) (hlo : (lo = none ∧ l = 0) ∨ ∃ k2 p2, lo = some (.Constant (.int (l : Int)) k2 p2)) : PE X (.Subscript e (.Slice lo none (some (.Constant (.int (st : Int)) k p1)) p3) pos) (tStep X.K l st te) := by
  refine ⟨fun pins s σ H Q I h => ?_⟩
  refine Subscript_ (thn (he.run pins s σ H _ I h) fun v s1 ⟨x, H1, I1, r1, q1⟩ => ?_)
  obtain ⟨a, xs, ex, hx, q⟩ := q1
  subst ex
  cases r1
  have hst : PO X (some (.Constant (.int (st : Int)) k p1)) (tPart (tC (.int (st : Int)))) := po_some pe_int
  have hl : ∃ (o : Option Int) (t : TO), ((o = none ∧ l = 0) ∨ o = some (l : Int)) ∧ PO X lo t ∧ ∀ σ H Q, Q o H → t σ H Q := by
    rcases hlo with ⟨rfl, e⟩ | ⟨k2, p2, rfl⟩
    · exact ⟨none, _, .inl ⟨rfl, e⟩, po_none, fun _ _ _ q => q⟩
    · exact ⟨some (l : Int), tPart (tC (.int (l : Int))), .inr rfl, po_some pe_int, fun _ _ _ q => ⟨(l : Int), rfl, q⟩⟩
  obtain ⟨o, t, ho, hpo, ht⟩ := hl
  refine wpAny_Slice (thn (hpo.run pins s1 σ H1 (fun o' H2 => o' = o ∧ H2 = H1) I1 (ht _ _ _ ⟨rfl, rfl⟩)) fun vl s2 ⟨l', H2, I2, pl, el, e2⟩ => ?_)
  subst el e2
  refine thn (po_none.run pins s2 σ H2 (fun o H3 => o = none ∧ H3 = H2) I2 ⟨rfl, rfl⟩) fun vu s3 ⟨u, H3, I3, pu, eu, e3⟩ => ?_
  subst eu e3
  refine thn (hst.run pins s3 σ H3 (fun o H4 => o = some (st : Int) ∧ H4 = H3) I3 ⟨(st : Int), rfl, rfl, rfl⟩) fun vs s4 ⟨o2, H4, I4, ps, eo, e4⟩ => ?_
  subst eo e4
  have I5 : Inv X pins σ H4 { s4 with heap := s4.heap.push { cls := .type "slice", data := .fields #[vl, vu, vs] } } := I4.kept (t' := s4.toks) fun b ob q => Heap.get?_push_of_some _ q
  obtain ⟨its, r, htt, hz⟩ := I5.list hx
  have hlen := r.length
  show wpAny (model X.prog X.w) X.A (subscriptTail e (.Slice lo none (some (.Constant (.int (st : Int)) k p1)) p3) (.ref a) (.ref s4.heap.objs.size)) (EP X pins σ Q) X.xe { s4 with heap := s4.heap.push { cls := .type "slice", data := .fields #[vl, vu, vs] } }
  refine tail_any (ops := [.ref a, .ref s4.heap.objs.size]) htt.isList.typeIs (PySem.slot_list_getitem.lookup) ?_ (by with_unfolding_all rfl)
  refine wpAny_getItem_list_slice htt.isList (Heap.IsSliceOf.new _ vl vu vs) pl pu ps (by intro z; have := Option.some.inj z; omega) ?_ (by rw [List.size_toArray]; omega)
  rw [pick_step its l' l st hs ho]
  refine ⟨.ref _, _, I5.laid (t' := s4.toks) (o := .lst (stepD l st xs)) (fun b ob q => Heap.get?_push_of_some _ q) (Nat.le_refl _) ?_, rfl, q _ (I5.hok.fresh (Nat.le_refl _))⟩
  refine ⟨Nat.le_trans (stepD_len hs xs) hz, _, 0, ?_, Heap.get?_push_size _ rfl⟩
  exact stepD_rel hlen fun i x hx => r.get hx
end
def fStep (lo st : Nat) (d : D) (M : Sto) : Res D := match lstOf M d with
  | some ds => .ok (.lst (stepD lo st ds)) M
  | none => match d with
    | .scr ds => .ok (.lst (stepD lo st ds)) M
    | _ => .stuck
def mStep (lo st : Nat) (m : ME) : ME := fun Γ M => (m Γ M).bind fun d M1 => fStep lo st d M1
theorem reps_of_paired {K : PySem.W.Frag} {mg : Str → Option Value} {F : Hp} {ρ : List Addr} : ∀ {ds : List D} {vs : List V}, Paired (Rep K mg F ρ) ds vs → Reps K mg F ρ ds vs
  | _, _, .nil => .nil
  | _, _, .cons r t => .cons r (reps_of_paired t)
section
variable {X : Cx} {W : WX} {a : Expr} {ma : ME} {k : Nat} {p1 p3 pos : Pos} {l st : Nat}
theorem step_imp {K : PySem.W.Frag} {mg : Str → Option Value} (hs : 0 < st) {σ : L2.St} {H : Hp} {Q : VK} (h : tD K mg W (mStep l st ma) σ H Q) : tStep K l st (tD K mg W ma) σ H Q := by
  obtain ⟨F, ρ, Γ, M, g, st0, h⟩ := h
  refine ⟨F, ρ, Γ, M, g, st0, h.bind.imp fun F1 ρ1 M1 H1 d v gr st1 rv h1 => ?_⟩
  have fin : ∀ {a : Addr} {vs : List V} {ds : List D}, v = .ref a → SqL K H1 a vs → Reps K mg F1 ρ1 ds vs → vs.length ≤ sizeLine → AftK K mg (Rep K mg) (WE W σ) (.ok (.lst (stepD l st ds)) M1) F1 ρ1 H1 (fun _ _ _ H' _ v => Q v H') →
      ∃ a xs, v = .ref a ∧ SqL K H1 a xs ∧ ∀ p, H1 p = none → Q (.ref p) (upd H1 p (.lst (stepD l st xs))) := fun {a vs ds} e q r z h => by
    refine ⟨a, vs, e, q, fun p n => ?_⟩
    obtain ⟨st2, gr2⟩ := st1.lay (o := .lst (stepD l st vs)) n (Nat.le_trans (stepD_len hs vs) z)
    have rr : Reps K mg F1 ρ1 (stepD l st ds) (stepD l st vs) := reps_of_paired (stepD_rel r.len.symm fun i x hx => r.get hx)
    exact h _ _ _ _ gr2 st2 (rep_lst upd_same (rr.mono gr2.f gr2.r))
  unfold fStep at h1
  split at h1
  · rename_i ds e
    obtain ⟨a, vs, e1, e2, e3, z⟩ := lstOf_at st1 rv e
    exact fin e1 (SqL.of e2) e3 z h1
  · split at h1
    · obtain ⟨a, vs, e1, e2, e3⟩ := rv.scr
      exact fin e1 (st1.sub.sqL e2) e3 (st1.szL _ _ e2) h1
    · exact h1.elim
theorem se_step0 (hs : 0 < st) (ha : SE X W ma a) : SE X W (mStep 0 st ma) (.Subscript a (.Slice none none (some (.Constant (.int (st : Int)) k p1)) p3) pos) :=
  (pe_step hs ha (.inl ⟨rfl, rfl⟩)).imp fun σ H Q h => step_imp hs h
theorem se_step {k2 : Nat} {p2 : Pos} {lo : Nat} (hs : 0 < st) (ha : SE X W ma a) : SE X W (mStep lo st ma) (.Subscript a (.Slice (some (.Constant (.int (lo : Int)) k2 p2)) none (some (.Constant (.int (st : Int)) k p1)) p3) pos) :=
  (pe_step hs ha (.inr ⟨k2, p2, rfl⟩)).imp fun σ H Q h => step_imp hs h
end
end DL

namespace DL
open PySem PySem.Spec PyProof.Rows L2
/-! the law's end -/
theorem start_st {K : PySem.W.Frag} {mg : Str → Option Value} {H : Hp} {a : Addr} {ns : List Int} (hO : L2.Only H) (hS : SqL K H a (ns.map V.int)) (hl : ns.length ≤ 63) :
    ∃ F, StOk K mg F [] [] H ∧ Rep K mg F [] (.scr (ns.map D.int)) (.ref a) := by
  have reps : ∀ (F : Hp) (ns : List Int), Reps K mg F [] (ns.map D.int) (ns.map V.int) := fun F ns => by
    induction ns with
    | nil => exact .nil
    | cons n ns ih => exact .cons (rep_int _) ih
  have kT : ∀ (F : Hp), (∀ b vs, ¬ Rd F b (.tup vs)) → ∀ b vs, SqT K F b vs → vs.length ≤ sizeLine := fun F hF b vs h => by
    rcases h with h | ⟨o, its, n, _, _, _, hz, r⟩
    · exact absurd h (hF b vs)
    · have := Vals.length r; rw [this]; simpa using hz
  have kL : ∀ b vs, (∃ (o : Obj) (its : Array Value) (n : Nat), K.lookup b = some o ∧ o.cls = .type "list" ∧ o.dict = none ∧ o.data = .seq its n ∧ its.size ≤ sizeLine ∧ Vals vs its.toList) → vs.length ≤ sizeLine := fun b vs ⟨o, its, n, _, _, _, _, hz, r⟩ => by
    have := Vals.length r; rw [this]; simpa using hz
  rcases hS with hS | hS
  · have hH : ∃ o, H a = some (.frz o (.lst (ns.map V.int))) := by
      rcases hS with hS | hS
      · rcases hO a with h | ⟨o, xs, h⟩
        · rw [h] at hS; cases hS
        · rw [h] at hS; cases hS
      · exact hS
    obtain ⟨o, hH⟩ := hH
    refine ⟨fun b => if b = a then H b else none, ⟨fun b u e => ?_, fun b vs h => ?_, kT _ fun b vs h => ?_, rfl, List.nodup_nil, fun a h => (nomatch h), fun n o e => by simp at e⟩, ?_⟩
    · split at e
      · exact e
      · cases e
    · rcases h with (h | ⟨o2, h⟩) | h
      · dsimp only at h
        split at h
        · rename_i q; subst q; rw [hH] at h; cases h
        · cases h
      · dsimp only at h
        split at h
        · rename_i q
          subst q
          rw [hH] at h
          cases h
          rw [List.length_map, sizeLine_eq]; omega
        · cases h
      · exact kL b vs h
    · rcases h with h | ⟨o2, h⟩
      · dsimp only at h
        split at h
        · rename_i q; subst q; rw [hH] at h; cases h
        · cases h
      · dsimp only at h
        split at h
        · rename_i q; subst q; rw [hH] at h; cases h
        · cases h
    · unfold Rep
      exact ⟨a, _, rfl, .inl (.inr ⟨o, by show (if a = a then H a else none) = _; rw [if_pos rfl]; exact hH⟩), reps _ _⟩
  · refine ⟨fun _ => none, ⟨fun b u e => (nomatch e), fun b vs h => ?_, kT _ fun b vs h => ?_, rfl, List.nodup_nil, fun a h => (nomatch h), fun n o e => by simp at e⟩, ?_⟩
    · rcases h with (h | ⟨o2, h⟩) | h
      · cases h
      · cases h
      · exact kL b vs h
    · rcases h with h | ⟨o2, h⟩
      · cases h
      · cases h
    · unfold Rep
      exact ⟨a, _, rfl, .inr hS, reps _ _⟩
def spTrue (K : PySem.W.Frag) : Sp := fun vs H Q _ => ∃ (a : Addr) (ns : List Int), vs = [.ref a] ∧ L2.Only H ∧ SqL K H a (ns.map V.int) ∧ ns.length ≤ 63 ∧ (∀ z ∈ ns, Builtin.Int.intBits z ≤ 1048576) ∧ ∀ H', Q (.bl true) H'
theorem law_ok {P : Program} {w : World} {K : PySem.W.Frag} {mg : Str → Option Value} {base : Heap} {k : Nat} {f : Addr} {fd : FuncData} {S : Fn} (F : FnD P w K mg base k f fd ["script"] S)
    (h : ∀ ns : List Int, ns.length ≤ 63 → (∀ z ∈ ns, Builtin.Int.intBits z ≤ 1048576) → ∃ M, S [.scr (ns.map D.int)] [] = .ok (.bl true) M) : FnOk P w K mg base (L2.CX P w) k f fd ["script"] (spTrue K) :=
  F.imp fun vs H Q E ⟨a, ns, e, hO, hS, hl, hb, q⟩ => by
    subst e
    obtain ⟨F, st, r⟩ := start_st (mg := mg) hO hS hl
    obtain ⟨M, hM⟩ := h ns hl hb
    refine ⟨F, [], [], _, .cons r .nil, rfl, st, ?_⟩
    rw [hM]
    intro F' ρ' H' v gr st' rv
    rw [rv.bl]
    exact q H'
theorem walk {l : PySem.W.OpenLaw} {q : Program} {loose : List Str} {XP : (Str → Option Value) → Heap → Prop} {YP : World → Heap → Prop} {d : DefRec} {K : Params → PySem.W.Frag} {k : Nat} (hn : l.most = some 63) (hdf : d.params.defaults = []) (hk : Room k callerA)
    (hY : ∀ (w : World) (h : Heap), YP w h → (K w.params).In h)
    (F : ∀ (w : World) (mg : Str → Option Value) (fa : Addr) (h : Heap), (K w.params).In h → h.Ns mainGlobals mg → mg d.name = some (.ref fa) →
      ∃ fd : FuncData, (∀ (s : Shared) (u : Value), BindsTo s fd ⟨[u], []⟩ [("script", u)]) ∧ ∀ base : Heap, (K w.params).In base → base.Ns mainGlobals mg → FnOk l.prog w (K w.params) mg base (L2.CX l.prog w) k fa fd ["script"] (spTrue (K w.params))) :
    PySem.W.WalkO q loose XP YP l.row.toRowW d [] (fun f vs => PySem.call f vs) :=
  L2.walk_ofB (n := 63) (k := k) (x := "script") (CX := fun w => L2.CX l.prog w) (sp := fun w => spTrue (K w.params)) hn (by decide) hdf hk hY F (fun _ _ a ns hl hb hO hS => ⟨a, ns, rfl, hO, hS, hl, hb, fun _ => rfl⟩)
    fun _ _ _ _ _ ⟨_, _, _, _, _, _, _, _, _, _, _, _, z⟩ => z

/-! facts in the walk's shape -/
theorem isi_bool {K : PySem.W.Frag} : IsiOk K "bool" := fun t ht => by
  simp only [List.mem_cons, List.not_mem_nil, or_false] at ht
  rcases ht with rfl | rfl | rfl | rfl | rfl | rfl <;> exact kit_ty (by decide +kernel)
theorem isi_int {K : PySem.W.Frag} : IsiOk K "int" := fun t ht => by
  simp only [List.mem_cons, List.not_mem_nil, or_false] at ht
  rcases ht with rfl | rfl | rfl | rfl | rfl | rfl <;> exact kit_ty (by decide +kernel)
theorem isi_str {K : PySem.W.Frag} : IsiOk K "str" := fun t ht => by
  simp only [List.mem_cons, List.not_mem_nil, or_false] at ht
  rcases ht with rfl | rfl | rfl | rfl | rfl | rfl <;> exact kit_ty (by decide +kernel)
theorem isi_tuple {K : PySem.W.Frag} : IsiOk K "tuple" := fun t ht => by
  simp only [List.mem_cons, List.not_mem_nil, or_false] at ht
  rcases ht with rfl | rfl | rfl | rfl | rfl | rfl <;> exact kit_ty (by decide +kernel)
theorem isi_list {K : PySem.W.Frag} : IsiOk K "list" := fun t ht => by
  simp only [List.mem_cons, List.not_mem_nil, or_false] at ht
  rcases ht with rfl | rfl | rfl | rfl | rfl | rfl <;> exact kit_ty (by decide +kernel)
theorem fld_nil {K : PySem.W.Frag} {mg : Str → Option Value} {f : Str} : FldOk K mg [] f := fun C h => nomatch h
theorem fld_cons {K : PySem.W.Frag} {mg : Str → Option Value} {f : Str} {C : Str} {Cs : List Str} {Ca : Addr} (m : mg C = some (.ref Ca)) (c : Cls K Ca) (n : NoAttr K Ca f) (r : FldOk K mg Cs f) : FldOk K mg (C :: Cs) f := fun D hD Da e => by
  rcases List.mem_cons.mp hD with rfl | hD
  · rw [m] at e; cases e
    exact ⟨c, n⟩
  · exact r D hD Da e
section
variable {K : PySem.W.Frag} {mg : Str → Option Value} {x qual : Str} {params : Arguments} {body : List Stmt} {scope : Scope} {dvs : List V} {kws : List (Str × V)} {f : Addr} {fd : FuncData} {ps : List Str}
theorem fund_mk {oc dV kV doc pm cdv ct : Value} {od an : Option Addr} {osl : Array (Option Value)} (l : K.lookup f = some ⟨oc, od, .func (PySem.W.fnOf x qual params body scope dV kV doc pm an cdv ct), osl⟩)
    (c : PySem.W.codeIn K cdv qual = true) (k : PySem.W.keepIn K (.ref f) = true) (hd : DflV K dV dvs) (hk : KwdV K kV kws) : FunD K x qual params body scope dvs kws f (PySem.W.fnOf x qual params body scope dV kV doc pm an cdv ct) :=
  ⟨⟨oc, od, dV, kV, doc, pm, an, cdv, ct, osl, rfl, l, c, hd, hk⟩, k⟩
/-- all parameters are written -/
theorem kd_all {n : Nat} (F : FunD K x qual params body scope [] kws f fd) (hn : n = ps.length)
    (h : ∀ (kV doc pm : Value) (an : Option Addr) (cdv ct : Value) (us : List Value), us.length = ps.length → bindArgs (PySem.W.fnOf x qual params body scope .none kV doc pm an cdv ct) ⟨us, []⟩ = pure (ps.zip us)) : KD K mg fd ps n [] (fun xs _ => xs) := KD.all (F.bindsN h) hn
/-- the keyword-only ones lack -/
theorem kd_kw0 {n : Nat} {dd : List D} (F : FunD K x qual params body scope [] kws f fd) (hk : kws ≠ []) (hn : n + kws.length = ps.length)
    (h : ∀ (D : Addr) (doc pm : Value) (an : Option Addr) (cdv ct : Value) (us ks : List Value), us.length = n → ks.length = kws.length →
      KwChain D ((kws.map (·.1)).zip ks) (bindArgs (PySem.W.fnOf x qual params body scope .none (.ref D) doc pm an cdv ct) ⟨us, []⟩) (ps.zip (us ++ ks))) (hd : ∀ F ρ, Reps K mg F ρ dd (kws.map (·.2))) : KD K mg fd ps n [] (fun xs _ => xs ++ dd) := by
  obtain ⟨ds, r, b⟩ := F.binds0 n hk hn h
  exact KD.pos b r (by rw [← Vals.length r, List.length_map]; exact hn) hd
/-- they are all written, in their order -/
theorem kd_kwA {n : Nat} {ks : List Str} (F : FunD K x qual params body scope [] kws f fd) (hk : kws ≠ [])
    (h : ∀ (D : Addr) (doc pm : Value) (an : Option Addr) (cdv ct : Value) (us ws : List Value), us.length = n → ws.length = ks.length →
      bindArgs (PySem.W.fnOf x qual params body scope .none (.ref D) doc pm an cdv ct) ⟨us, ks.zip ws⟩ = pure (ps.zip (us ++ ws))) : KD K mg fd ps n ks (fun xs es => xs ++ es) := by
  obtain ⟨mv, b⟩ := F.kbinds0 n ks [] (fun us _ ws => us ++ ws) hk (fun q h => nomatch h) (fun r1 _ r3 => r1.append r3) (fun D doc pm an cdv ct us mv ws l1 l2 l3 => h D doc pm an cdv ct us ws l1 l3)
  exact ⟨_, _, b, fun F ρ ds vs es zs r1 r2 => r1.append r2⟩
end
end DL

namespace DL
open PySem
/-! what a reading opens -/
section
variable {Γ : DEnv} {M : Sto}
@[simp] theorem e_var {i : Nat} : mVar i Γ M = match Γ[i]? with
  | some (some d) => .ok d M
  | _ => .stuck := rfl
@[simp] theorem e_c {d : D} : mC d Γ M = .ok d M := rfl
@[simp] theorem e_bin {f : D → D → Sto → Res D} {a b : ME} : mBin f a b Γ M = (a Γ M).bind fun d M1 => (b Γ M1).bind fun e M2 => f d e M2 := rfl
@[simp] theorem e_un {f : D → Sto → Res D} {a : ME} : mUn f a Γ M = (a Γ M).bind fun d M1 => f d M1 := rfl
@[simp] theorem e_cmpT {f : D → D → Sto → Option Bool} {a b : ME} : mCmpT f a b Γ M = (a Γ M).bind fun d M1 => (b Γ M1).bind fun e M2 => liftB (f d e M2) M2 := rfl
@[simp] theorem e_cmp {f : D → D → Sto → Option Bool} {a b : ME} : mCmp f a b Γ M = (mCmpT f a b Γ M).bind fun b M1 => .ok (.bl b) M1 := rfl
@[simp] theorem e_ofT {m : MT} : mOfT m Γ M = (m Γ M).bind fun b M1 => .ok (.bl b) M1 := rfl
@[simp] theorem e_tru {m : ME} : mTru m Γ M = (m Γ M).bind fun d M1 => liftB (truth M1 d) M1 := rfl
@[simp] theorem e_andT {t u : MT} : mAndT t u Γ M = (t Γ M).bind fun b M1 => if b = true then u Γ M1 else .ok false M1 := rfl
@[simp] theorem e_orT {t u : MT} : mOrT t u Γ M = (t Γ M).bind fun b M1 => if b = true then .ok true M1 else u Γ M1 := rfl
@[simp] theorem e_notT {t : MT} : mNotT t Γ M = (t Γ M).bind fun b M1 => .ok (!b) M1 := rfl
def bOr (d : D) (u : Res D) (M : Sto) : Res D := match asB d with
  | some true => .ok (.bl true) M
  | some false => u
  | none => .stuck
def bAnd (d : D) (u : Res D) (M : Sto) : Res D := match asB d with
  | some true => u
  | some false => .ok (.bl false) M
  | none => .stuck
def bNot (d : D) (M : Sto) : Res D := match asB d with
  | some b => .ok (.bl (!b)) M
  | none => .stuck
@[simp] theorem e_bOr {b : Bool} {u : Res D} : bOr (.bl b) u M = if b = true then .ok (.bl true) M else u := by cases b <;> rfl
@[simp] theorem e_bAnd {b : Bool} {u : Res D} : bAnd (.bl b) u M = if b = true then u else .ok (.bl false) M := by cases b <;> rfl
@[simp] theorem e_bNot {b : Bool} : bNot (.bl b) M = .ok (.bl (!b)) M := rfl
@[simp] theorem e_andV {t u : ME} : mAndV t u Γ M = (t Γ M).bind fun d M1 => bAnd d (u Γ M1) M1 := rfl
@[simp] theorem e_orV {t u : ME} : mOrV t u Γ M = (t Γ M).bind fun d M1 => bOr d (u Γ M1) M1 := rfl
@[simp] theorem e_notV {t : ME} : mNotV t Γ M = (t Γ M).bind fun d M1 => bNot d M1 := rfl
@[simp] theorem e_if {t : MT} {u w : ME} : mIf t u w Γ M = (t Γ M).bind fun b M1 => if b = true then u Γ M1 else w Γ M1 := rfl
@[simp] theorem e_nil : mNil Γ M = .ok [] M := rfl
@[simp] theorem e_cons {m : ME} {r : MA} : mCons m r Γ M = (m Γ M).bind fun d M1 => (r Γ M1).bind fun ds M2 => .ok (d :: ds) M2 := rfl
@[simp] theorem e_tup {m : MA} : mTup m Γ M = (m Γ M).bind fun ds M1 => if ds.length ≤ 16777216 then .ok (.tup ds) M1 else .stuck := rfl
@[simp] theorem e_lst {m : MA} : mLst m Γ M = (m Γ M).bind fun ds M1 => if ds.length ≤ 16777216 then .ok (.lst ds) M1 else .stuck := rfl
@[simp] theorem e_lstM {m : MA} : mLstM m Γ M = (m Γ M).bind fun ds M1 => if ds.length ≤ 16777216 then .ok (.ref M1.length) (M1 ++ [.lst ds]) else .stuck := rfl
@[simp] theorem e_noPart : mNoPart Γ M = .ok none M := rfl
def partOf (d : D) (M : Sto) : Res (Option Int) := match d with
  | .int i => .ok (some i) M
  | _ => .stuck
@[simp] theorem e_partOf {i : Int} : partOf (.int i) M = .ok (some i) M := rfl
@[simp] theorem e_part {m : ME} : mPart m Γ M = (m Γ M).bind fun d M1 => partOf d M1 := rfl
@[simp] theorem e_sl {m : ME} {lo hi : MO'} : mSl m lo hi Γ M = (m Γ M).bind fun d M1 => (lo Γ M1).bind fun l M2 => (hi Γ M2).bind fun u M3 => fSl d l u M3 := rfl
@[simp] theorem e_step {lo st : Nat} {m : ME} : mStep lo st m Γ M = (m Γ M).bind fun d M1 => fStep lo st d M1 := rfl
@[simp] theorem e_gn {i : Nat} {d : D} : mGN i d Γ M = .ok (Γ.set i (some d)) M := rfl
@[simp] theorem e_gnil : mGNil [] Γ M = .ok Γ M := rfl
@[simp] theorem e_gcons {m : MG} {r : MGs} {d : D} {ds : List D} : mGCons m r (d :: ds) Γ M = (m d Γ M).bind fun Γ1 M1 => r ds Γ1 M1 := rfl
@[simp] theorem e_gseq {n : Nat} {r : MGs} {d : D} : mGSeq n r d Γ M = match seqOf M d with
  | some ds => if ds.length = n then r ds Γ M else .stuck
  | none => .stuck := rfl
@[simp] theorem e_gstar {n i : Nat} {r : MGs} {d : D} : mGStar n i r d Γ M = match seqOf M d with
  | some ds => if n ≤ ds.length + 1 ∧ ds.length ≤ 16384 then r (ds.take i ++ [.lst ((ds.drop i).take (ds.length + 1 - n))] ++ (ds.drop i).drop (ds.length + 1 - n)) Γ M else .stuck
  | none => .stuck := rfl
@[simp] theorem e_pass : mPass Γ M = .nx Γ M := rfl
def RS.seq (r : RS) (f : DEnv → Sto → RS) : RS := match r with
  | .nx Γ M => f Γ M
  | r => r
@[simp] theorem rs_nx {f : DEnv → Sto → RS} : (RS.nx Γ M).seq f = f Γ M := eqn rfl
@[simp] theorem rs_ret {d : D} {f : DEnv → Sto → RS} : (RS.ret d M).seq f = .ret d M := rfl
@[simp] theorem rs_brk {f : DEnv → Sto → RS} : (RS.brk Γ M).seq f = .brk Γ M := rfl
@[simp] theorem rs_ct {f : DEnv → Sto → RS} : (RS.ct Γ M).seq f = .ct Γ M := rfl
@[simp] theorem rs_exc {x : Xn} {f : DEnv → Sto → RS} : (RS.exc x Γ M).seq f = .exc x Γ M := rfl
@[simp] theorem rs_ite {c : Prop} [Decidable c] {a b : RS} {f : DEnv → Sto → RS} : (if c then a else b).seq f = if c then a.seq f else b.seq f := by split <;> rfl
@[simp] theorem e_seq {m1 m2 : MS} : mSeq m1 m2 Γ M = (m1 Γ M).seq m2 := by unfold mSeq RS.seq; cases m1 Γ M <;> rfl
@[simp] theorem e_expr {m : ME} : mExpr m Γ M = (m Γ M).toS Γ fun _ M1 => .nx Γ M1 := rfl
@[simp] theorem e_ret {m : ME} : mRet m Γ M = (m Γ M).toS Γ fun d M1 => .ret d M1 := rfl
@[simp] theorem e_retN : mRetN Γ M = .ret .non M := rfl
@[simp] theorem e_brk : mBrk Γ M = .brk Γ M := rfl
@[simp] theorem e_ct : mCt Γ M = .ct Γ M := rfl
@[simp] theorem e_ifS {t : MT} {a b : MS} : mIfS t a b Γ M = (t Γ M).toS Γ fun c M1 => if c = true then a Γ M1 else b Γ M1 := rfl
@[simp] theorem e_asg {m : ME} {g : MG} : mAsg m g Γ M = (m Γ M).toS Γ fun d M1 => (g d Γ M1).toSG fun Γ2 M2 => .nx Γ2 M2 := rfl
def par2 (i j : Nat) (ds : List D) (Γ : DEnv) (M : Sto) : RS := match ds with
  | [d, e] => .nx ((Γ.set i (some d)).set j (some e)) M
  | _ => .stuck
@[simp] theorem e_par2 {i j : Nat} {d e : D} : par2 i j [d, e] Γ M = .nx ((Γ.set i (some d)).set j (some e)) M := rfl
@[simp] theorem e_par {i j : Nat} {ms : MA} : mPar i j ms Γ M = (ms Γ M).toS Γ fun ds M1 => par2 i j ds Γ M1 := rfl
@[simp] theorem e_for {it : MI} {g : MG} {body : MS} : mFor it g body Γ M = (it Γ M).toS Γ fun p M1 => forL g body p.2 p.1 Γ M1 := rfl
@[simp] theorem e_while {n : Nat} {t : MT} {body : MS} : mWhile n t body Γ M = whL t body n Γ M := rfl
def srcOf (d : D) (M : Sto) : Res (List D × (Sto → Bool)) := match iterOf M d with
  | some p => .ok p M
  | none => .stuck
@[simp] theorem e_iter {m : ME} : mIter m Γ M = (m Γ M).bind fun d M1 => srcOf d M1 := rfl
@[simp] theorem src_tup {ds : List D} : srcOf (.tup ds) M = .ok (ds, kT) M := rfl
@[simp] theorem src_lst {ds : List D} : srcOf (.lst ds) M = .ok (ds, kT) M := rfl
@[simp] theorem src_scr {ds : List D} : srcOf (.scr ds) M = .ok (ds, kT) M := rfl
def rng1 (ds : List D) (M : Sto) : Res (List D × (Sto → Bool)) := match ds with
  | [.int j] => if j ≤ 16777216 ∧ -4611686018427387904 ≤ j then .ok (upTo 0 j, kT) M else .stuck
  | _ => .stuck
@[simp] theorem e_rng1' {j : Int} : rng1 [.int j] M = if j ≤ 16777216 ∧ -4611686018427387904 ≤ j then .ok (upTo 0 j, kT) M else .stuck := rfl
@[simp] theorem e_rng1 {m : MA} : mRng1 m Γ M = (m Γ M).bind fun ds M1 => rng1 ds M1 := rfl
def rng2 (ds : List D) (M : Sto) : Res (List D × (Sto → Bool)) := match ds with
  | [.int i, .int j] => if (-1000000000000 ≤ i ∧ i ≤ 1000000000000) ∧ (-1000000000000 ≤ j ∧ j ≤ 1000000000000) ∧ j - i ≤ 16777216 then .ok (upTo i j, kT) M else .stuck
  | _ => .stuck
@[simp] theorem e_rng2' {i j : Int} : rng2 [.int i, .int j] M = if (-1000000000000 ≤ i ∧ i ≤ 1000000000000) ∧ (-1000000000000 ≤ j ∧ j ≤ 1000000000000) ∧ j - i ≤ 16777216 then .ok (upTo i j, kT) M else .stuck := rfl
@[simp] theorem e_rng2 {m : MA} : mRng2 m Γ M = (m Γ M).bind fun ds M1 => rng2 ds M1 := rfl
def zipS (ds : List D) (M : Sto) : Res (List D × (Sto → Bool)) := match ds with
  | [d, e] => match sqD d, sqD e with
    | some (_, xs), some (_, ys) => if xs.length = ys.length then .ok (pairs xs ys, kT) M else .stuck
    | _, _ => .stuck
  | _ => .stuck
@[simp] theorem e_zipS {m : MA} : mZipS m Γ M = (m Γ M).bind fun ds M1 => zipS ds M1 := rfl
def zipN (ds : List D) (M : Sto) : Res (List D × (Sto → Bool)) := match ds with
  | [d, e] => match sqD d, sqD e with
    | some (k, xs), some (l, ys) => if k = l then .ok (pairs xs ys, kT) M else .stuck
    | _, _ => .stuck
  | _ => .stuck
@[simp] theorem e_zip {m : MA} : mZip m Γ M = (m Γ M).bind fun ds M1 => zipN ds M1 := rfl
@[simp] theorem sqD_tup {ds : List D} : sqD (.tup ds) = some (true, ds) := rfl
@[simp] theorem sqD_lst {ds : List D} : sqD (.lst ds) = some (false, ds) := rfl
@[simp] theorem sqD_scr {ds : List D} : sqD (.scr ds) = some (false, ds) := rfl
theorem zipS_of {d e : D} {k l : Bool} {xs ys : List D} (h1 : sqD d = some (k, xs)) (h2 : sqD e = some (l, ys)) (h : xs.length = ys.length) : zipS [d, e] M = .ok (pairs xs ys, kT) M := by
  unfold zipS; dsimp only; rw [h1, h2]; exact if_pos h
theorem zipN_of {d e : D} {k : Bool} {xs ys : List D} (h1 : sqD d = some (k, xs)) (h2 : sqD e = some (k, ys)) : zipN [d, e] M = .ok (pairs xs ys, kT) M := by
  unfold zipN; dsimp only; rw [h1, h2]; exact if_pos rfl
@[simp] theorem e_lc {it : MI} {g : MG} {vs : List Nat} {t : MT} {e : ME} : mLc it g vs t e Γ M = (it Γ M).bind fun p M1 => (lcL g t e p.2 (dwipe Γ vs) p.1 M1).bind fun ys M2 => .ok (.lst ys) M2 := rfl
@[simp] theorem e_lcM {it : MI} {g : MG} {vs : List Nat} {t : MT} {e : ME} : mLcM it g vs t e Γ M = (it Γ M).bind fun p M1 => (lcL g t e p.2 (dwipe Γ vs) p.1 M1).bind fun ys M2 => .ok (.ref M2.length) (M2 ++ [.lst ys]) := rfl
@[simp] theorem e_lc2 {it it1 : MI} {g g1 : MG} {vs vs1 : List Nat} {t t1 : MT} {e : ME} : mLc2 it g vs t it1 g1 vs1 t1 e Γ M = (it Γ M).bind fun p M1 => (lcL2 g t it1 g1 vs1 t1 e p.2 (dwipe Γ vs) p.1 M1).bind fun ys M2 => if ys.length ≤ 16777216 then .ok (.lst ys) M2 else .stuck := rfl
@[simp] theorem e_yes : mYes Γ M = .ok true M := rfl
@[simp] theorem dw_nil : dwipe Γ [] = Γ := rfl
@[simp] theorem dw_cons {v : Nat} {vs : List Nat} : dwipe Γ (v :: vs) = (dwipe Γ vs).set v none := rfl
@[simp] theorem kT_ap : kT M = true := rfl
@[simp] theorem e_call {n m : Nat} {S : Fn} {g : List D → List D → List D} {ms mk : MA} : mCall n m S g ms mk Γ M = (ms Γ M).bind fun ds M1 => (mk Γ M1).bind fun es M2 => if ds.length = n ∧ es.length = m then S (g ds es) M2 else .stuck := rfl
@[simp] theorem e_fld {Cs : List Str} {f : Str} {m : ME} : mFld Cs f m Γ M = (m Γ M).bind fun d M1 => fldGet Cs f d M1 := rfl
def setF (Cs : List Str) (f : Str) (o d : D) (Γ : DEnv) (M2 : Sto) : RS := match o with
  | .ref n => match M2[n]? with
    | some (.ins C ns ds) => if Cs.contains C = true ∧ ns.length < 1000 then .nx Γ (M2.set n (.ins C (putN f d ns ds).1 (putN f d ns ds).2)) else .stuck
    | _ => .stuck
  | _ => .stuck
@[simp] theorem e_setF {Cs : List Str} {f : Str} {mo mv : ME} : mSetF Cs f mo mv Γ M = (mv Γ M).toS Γ fun d M1 => (mo Γ M1).toS Γ fun o M2 => setF Cs f o d Γ M2 := rfl
def meth (C m : Str) (n k : Nat) (S : Fn) (g : List D → List D → List D) (d : D) (M0 : Sto) (ms mk : Sto → Res (List D)) : Res D := match clsOf M0 d, fldsOf M0 d with
  | some C', some (ns, fs) => if C' = C ∧ ((ns.zip fs).lookup m).isNone = true then (ms M0).bind fun ds M1 => (mk M1).bind fun es M2 => if ds.length + 1 = n ∧ es.length = k then S (g (d :: ds) es) M2 else .stuck else .stuck
  | _, _ => .stuck
@[simp] theorem e_meth {C m : Str} {n k : Nat} {S : Fn} {g : List D → List D → List D} {mo : ME} {ms mk : MA} : mMeth C m n k S g mo ms mk Γ M = (mo Γ M).bind fun d M0 => meth C m n k S g d M0 (ms Γ) (mk Γ) := rfl
@[simp] theorem meth_obj {C m : Str} {n k : Nat} {S : Fn} {g : List D → List D → List D} {ns : List Str} {fs : List D} {ms mk : Sto → Res (List D)} : meth C m n k S g (.obj C ns fs) M ms mk =
    if ((ns.zip fs).lookup m).isNone = true then (ms M).bind fun ds M1 => (mk M1).bind fun es M2 => if ds.length + 1 = n ∧ es.length = k then S (g (.obj C ns fs :: ds) es) M2 else .stuck else .stuck := by
  show (if C = C ∧ _ then _ else _) = _
  by_cases h : ((ns.zip fs).lookup m).isNone = true
  · rw [if_pos ⟨rfl, h⟩, if_pos h]
  · rw [if_neg (fun z => h z.2), if_neg h]
def frzR (n : Nat) (r : D) (M3 : Sto) : Res D := match r with
  | .non => frz n M3
  | _ => .stuck
@[simp] theorem e_frzR {n : Nat} : frzR n .non M = frz n M := rfl
@[simp] theorem e_make {C : Str} {n k : Nat} {S : Fn} {g : List D → List D → List D} {ms mk : MA} : mMake C n k S g ms mk Γ M = (ms Γ M).bind fun ds M1 => (mk Γ M1).bind fun es M2 => if ds.length + 1 = n ∧ es.length = k then (S (g (.ref M2.length :: ds) es) (M2 ++ [.ins C [] []])).bind fun r M3 => frzR M2.length r M3 else .stuck := rfl
@[simp] theorem e_B {f : List D → Sto → Res D} {ms : MA} : mB f ms Γ M = (ms Γ M).bind fun ds M1 => f ds M1 := rfl
def isi (T : String) (d : D) (M : Sto) : Res Bool := match tyOf M d with
  | some t => .ok (isiB t T) M
  | none => .stuck
@[simp] theorem e_isi {T : String} {m : ME} : mIsi T m Γ M = (m Γ M).bind fun d M1 => isi T d M1 := rfl
@[simp] theorem isi_bl {T : String} {b : Bool} : isi T (.bl b) M = .ok (isiB "bool" T) M := rfl
@[simp] theorem isi_i {T : String} {i : Int} : isi T (.int i) M = .ok (isiB "int" T) M := rfl
@[simp] theorem isi_s {T : String} {x : Str} : isi T (.str x) M = .ok (isiB "str" T) M := rfl
@[simp] theorem e_mt {pre : Sto → D → Bool} {f : D → List D → Sto → Res D} {mo : ME} {ms : MA} : mMt pre f mo ms Γ M = (mo Γ M).bind fun d M1 => if pre M1 d = true then (ms Γ M1).bind fun ds M2 => f d ds M2 else .stuck := rfl
@[simp] theorem e_frz {m : ME} : mFrz m Γ M = (m Γ M).bind fun d M1 => fFreeze d M1 := rfl
end
section
variable {M : Sto} {Γ : DEnv}
@[simp] theorem ix_tup {ds : List D} {i : Int} : fIx (.tup ds) (.int i) M = optR (L2.atI ds i) M := rfl
@[simp] theorem ix_lst {ds : List D} {i : Int} : fIx (.lst ds) (.int i) M = optR (L2.atI ds i) M := rfl
@[simp] theorem ix_scr {ds : List D} {i : Int} : fIx (.scr ds) (.int i) M = optR (L2.atI ds i) M := rfl
theorem ix_ref {n : Nat} {ds : List D} {i : Int} (h : M[n]? = some (.lst ds)) : fIx (.ref n) (.int i) M = optR (L2.atI ds i) M := by
  show optR ((seqOf M (.ref n)).bind fun ds => L2.atI ds i) M = _
  unfold seqOf lstOf
  dsimp only
  rw [h]
  rfl
@[simp] theorem at_0 {α : Type} {a : α} {r : List α} : L2.atI (a :: r) 0 = some a := by simp [L2.atI, L2.ixN]
@[simp] theorem at_1 {α : Type} {a b : α} {r : List α} : L2.atI (a :: b :: r) 1 = some b := by
  simp only [L2.atI, L2.ixN, List.length_cons]
  rw [if_pos (by omega), if_pos (by omega)]
  rfl
@[simp] theorem at_2 {α : Type} {a b c : α} {r : List α} : L2.atI (a :: b :: c :: r) 2 = some c := by
  simp only [L2.atI, L2.ixN, List.length_cons]
  rw [if_pos (by omega), if_pos (by omega)]
  rfl
@[simp] theorem at_3 {α : Type} {a b c d : α} {r : List α} : L2.atI (a :: b :: c :: d :: r) 3 = some d := by
  simp only [L2.atI, L2.ixN, List.length_cons]
  rw [if_pos (by omega), if_pos (by omega)]
  rfl
@[simp] theorem at_4 {α : Type} {x0 x1 x2 x3 x4 : α} {r : List α} : L2.atI (x0 :: x1 :: x2 :: x3 :: x4 :: r) 4 = some x4 := by
  simp only [L2.atI, L2.ixN, List.length_cons]
  rw [if_pos (by omega), if_pos (by omega)]
  rfl
@[simp] theorem at_5 {α : Type} {x0 x1 x2 x3 x4 x5 : α} {r : List α} : L2.atI (x0 :: x1 :: x2 :: x3 :: x4 :: x5 :: r) 5 = some x5 := by
  simp only [L2.atI, L2.ixN, List.length_cons]
  rw [if_pos (by omega), if_pos (by omega)]
  rfl
@[simp] theorem at_6 {α : Type} {x0 x1 x2 x3 x4 x5 x6 : α} {r : List α} : L2.atI (x0 :: x1 :: x2 :: x3 :: x4 :: x5 :: x6 :: r) 6 = some x6 := by
  simp only [L2.atI, L2.ixN, List.length_cons]
  rw [if_pos (by omega), if_pos (by omega)]
  rfl
@[simp] theorem at_7 {α : Type} {x0 x1 x2 x3 x4 x5 x6 x7 : α} {r : List α} : L2.atI (x0 :: x1 :: x2 :: x3 :: x4 :: x5 :: x6 :: x7 :: r) 7 = some x7 := by
  simp only [L2.atI, L2.ixN, List.length_cons]
  rw [if_pos (by omega), if_pos (by omega)]
  rfl
@[simp] theorem at_8 {α : Type} {x0 x1 x2 x3 x4 x5 x6 x7 x8 : α} {r : List α} : L2.atI (x0 :: x1 :: x2 :: x3 :: x4 :: x5 :: x6 :: x7 :: x8 :: r) 8 = some x8 := by
  simp only [L2.atI, L2.ixN, List.length_cons]
  rw [if_pos (by omega), if_pos (by omega)]
  rfl
@[simp] theorem at_9 {α : Type} {x0 x1 x2 x3 x4 x5 x6 x7 x8 x9 : α} {r : List α} : L2.atI (x0 :: x1 :: x2 :: x3 :: x4 :: x5 :: x6 :: x7 :: x8 :: x9 :: r) 9 = some x9 := by
  simp only [L2.atI, L2.ixN, List.length_cons]
  rw [if_pos (by omega), if_pos (by omega)]
  rfl
theorem at_nat {α : Type} {xs : List α} {i : Nat} (h : i < xs.length) : L2.atI xs (i : Int) = some xs[i] := by
  simp only [L2.atI, L2.ixN]
  rw [if_pos (by omega), if_pos (by omega)]
  simp [h]
theorem at_last {α : Type} {xs : List α} {a : α} : L2.atI (xs ++ [a]) (-1) = some a := by
  simp only [L2.atI, L2.ixN, List.length_append, List.length_cons, List.length_nil]
  rw [if_neg (by omega), if_pos (by omega)]
  show (xs ++ [a])[(_ : Int).toNat]? = _
  have : (-1 + (((xs.length + (0 + 1) : Nat) : Int))).toNat = xs.length := by omega
  rw [this]
  simp
def setIx (o i d : D) (Γ : DEnv) (M3 : Sto) : RS := match o, i with
  | .ref n, .int k => match M3[n]? with
    | some (.lst ds) => match L2.ixN ds.length k with
      | some j => .nx Γ (M3.set n (.lst (ds.set j d)))
      | none => .stuck
    | _ => .stuck
  | _, _ => .stuck
@[simp] theorem e_setIx {mo mi mv : ME} : mSetIx mo mi mv Γ M = (mv Γ M).toS Γ fun d M1 => (mo Γ M1).toS Γ fun o M2 => (mi Γ M2).toS Γ fun i M3 => setIx o i d Γ M3 := by
  unfold mSetIx setIx
  rfl
theorem set_0 {n : Nat} {a : D} {ds : List D} {d : D} (h : M[n]? = some (.lst (a :: ds))) : setIx (.ref n) (.int 0) d Γ M = .nx Γ (M.set n (.lst (d :: ds))) := by
  unfold setIx
  dsimp only
  rw [h]
  have : L2.ixN (a :: ds).length 0 = some 0 := by
    unfold L2.ixN
    rw [if_pos (by decide), if_pos (by simp)]
    rfl
  dsimp only
  rw [this]
  rfl
@[simp] theorem add_i {i j : Int} : fAdd (.int i) (.int j) M = .ok (.int (i + j)) M := rfl
@[simp] theorem sub_i {i j : Int} : fSub (.int i) (.int j) M = .ok (.int (i - j)) M := rfl
@[simp] theorem neg_i {i : Int} : fNeg (.int i) M = .ok (.int (-i)) M := rfl
@[simp] theorem lt_i {i j : Int} : fLt (.int i) (.int j) M = some (decide (i < j)) := rfl
@[simp] theorem le_i {i j : Int} : fLe (.int i) (.int j) M = some (decide (i ≤ j)) := rfl
@[simp] theorem gt_i {i j : Int} : fGt (.int i) (.int j) M = some (decide (j < i)) := rfl
@[simp] theorem ge_i {i j : Int} : fGe (.int i) (.int j) M = some (decide (j ≤ i)) := rfl
theorem mod_i {i j : Int} (h : 0 < j) : fMod (.int i) (.int j) M = .ok (.int (i % j)) M := by
  unfold fMod; dsimp only; rw [if_pos h]
theorem div_i {i j : Int} (h : 0 < j) (h2 : j < 1073741824) : fDiv (.int i) (.int j) M = .ok (.int (i / j)) M := by
  unfold fDiv; dsimp only; rw [if_pos]; simp [divOk, h, h2]
theorem mul_l {i j : Int} (h : -18446744073709551616 < i ∧ i < 18446744073709551616) : fMul (.int i) (.int j) M = .ok (.int (i * j)) M := by
  unfold fMul; dsimp only; rw [if_pos]; simp [mulOk, h]
theorem mul_r {i j : Int} (h : -18446744073709551616 < j ∧ j < 18446744073709551616) : fMul (.int i) (.int j) M = .ok (.int (i * j)) M := by
  unfold fMul; dsimp only; rw [if_pos]; simp [mulOk, h]
@[simp] theorem tru_bl {b : Bool} : truth M (.bl b) = some b := rfl
@[simp] theorem tru_i {i : Int} : truth M (.int i) = some (i != 0) := rfl
end
/-! == of data that nothing changes -/
mutual
def plD : D → Bool
  | .non => true
  | .bl _ => true
  | .int _ => true
  | .str x => PyData.strOk x
  | .tup ds => plDs ds
  | .lst ds => plDs ds
  | .scr ds => plDs ds
  | .obj _ _ _ => false
  | .ref _ => false
def plDs : List D → Bool
  | [] => true
  | d :: ds => plD d && plDs ds
end
mutual
def depD : D → Nat
  | .tup ds => depDs ds + 1
  | .lst ds => depDs ds + 1
  | .scr ds => depDs ds + 1
  | _ => 0
def depDs : List D → Nat
  | [] => 0
  | d :: ds => max (depD d) (depDs ds)
end
def isL : D → Option (List D)
  | .lst ds => some ds
  | .scr ds => some ds
  | _ => none
mutual
def eqD : D → D → Bool
  | .non, e => match e with
    | .non => true
    | _ => false
  | .bl a, e => match e with
    | .bl b => a == b
    | .int j => (if a then 1 else 0) == j
    | _ => false
  | .int i, e => match e with
    | .bl b => i == (if b then 1 else 0)
    | .int j => i == j
    | _ => false
  | .str x, e => match e with
    | .str y => x == y
    | _ => false
  | .tup xs, e => match e with
    | .tup ys => eqDs xs ys
    | _ => false
  | .lst xs, e => match e with
    | .lst ys => eqDs xs ys
    | .scr ys => eqDs xs ys
    | _ => false
  | .scr xs, e => match e with
    | .lst ys => eqDs xs ys
    | .scr ys => eqDs xs ys
    | _ => false
  | .obj _ _ _, _ => false
  | .ref _, _ => false
def eqDs : List D → List D → Bool
  | [], ys => match ys with
    | [] => true
    | _ => false
  | x :: xs, ys => match ys with
    | y :: ys => eqD x y && eqDs xs ys
    | _ => false
end
mutual
theorem toP_pl : ∀ {d : D}, plD d = true → ∃ p, toP d = some p ∧ p.canLay0 = true ∧ p.depth = depD d
  | .non, _ => ⟨_, rfl, rfl, rfl⟩
  | .bl _, _ => ⟨_, rfl, rfl, rfl⟩
  | .int _, _ => ⟨_, rfl, rfl, rfl⟩
  | .str _, h => ⟨_, rfl, by unfold PyData.canLay0; unfold plD at h; exact h, rfl⟩
  | .tup ds, h => by
    unfold plD at h
    obtain ⟨ps, e, c, n⟩ := toPs_pl h
    exact ⟨.tuple ps, by unfold toP; rw [e]; rfl, by unfold PyData.canLay0; exact c, by unfold PyData.depth depD; rw [n]⟩
  | .lst ds, h => by
    unfold plD at h
    obtain ⟨ps, e, c, n⟩ := toPs_pl h
    exact ⟨.list ps, by unfold toP; rw [e]; rfl, by unfold PyData.canLay0; exact c, by unfold PyData.depth depD; rw [n]⟩
  | .scr ds, h => by
    unfold plD at h
    obtain ⟨ps, e, c, n⟩ := toPs_pl h
    exact ⟨.list ps, by unfold toP; rw [e]; rfl, by unfold PyData.canLay0; exact c, by unfold PyData.depth depD; rw [n]⟩
  | .obj _ _ _, h => by unfold plD at h; cases h
  | .ref _, h => by unfold plD at h; cases h
theorem toPs_pl : ∀ {ds : List D}, plDs ds = true → ∃ ps, toPs ds = some ps ∧ PyData.canLayAll0 ps = true ∧ PyData.depthAll ps = depDs ds
  | [], _ => ⟨[], rfl, rfl, rfl⟩
  | d :: ds, h => by
    unfold plDs at h
    rw [Bool.and_eq_true] at h
    obtain ⟨p, e, c, n⟩ := toP_pl h.1
    obtain ⟨ps, e2, c2, n2⟩ := toPs_pl h.2
    exact ⟨p :: ps, by unfold toPs; rw [e, e2], by unfold PyData.canLayAll0; rw [c, c2]; rfl, by unfold PyData.depthAll depDs; rw [n, n2]⟩
end
mutual
theorem eqv_D : ∀ {d e : D} {p q : PyData}, toP d = some p → toP e = some q → PyData.eqv p q = eqD d e
  | .non, e, _, q, h, k => by cases h; cases e <;> simp [toP] at k <;> (first | (obtain ⟨_, _, rfl⟩ := k) | subst k) <;> simp [PyData.eqv, eqD]
  | .bl _, e, _, q, h, k => by cases h; cases e <;> simp [toP] at k <;> (first | (obtain ⟨_, _, rfl⟩ := k) | subst k) <;> simp [PyData.eqv, eqD]
  | .int _, e, _, q, h, k => by cases h; cases e <;> simp [toP] at k <;> (first | (obtain ⟨_, _, rfl⟩ := k) | subst k) <;> simp [PyData.eqv, eqD]
  | .str _, e, _, q, h, k => by cases h; cases e <;> simp [toP] at k <;> (first | (obtain ⟨_, _, rfl⟩ := k) | subst k) <;> simp [PyData.eqv, eqD]
  | .tup ds, e, _, q, h, k => by
    simp only [toP, Option.map_eq_some_iff] at h
    obtain ⟨ps, h, rfl⟩ := h
    cases e <;> simp [toP] at k <;> (first | (obtain ⟨qs, k, rfl⟩ := k) | subst k) <;> simp only [PyData.eqv, eqD]
    exact eqvs_D h k
  | .lst ds, e, _, q, h, k => by
    simp only [toP, Option.map_eq_some_iff] at h
    obtain ⟨ps, h, rfl⟩ := h
    cases e <;> simp [toP] at k <;> (first | (obtain ⟨qs, k, rfl⟩ := k) | subst k) <;> simp only [PyData.eqv, eqD]
    · exact eqvs_D h k
    · exact eqvs_D h k
  | .scr ds, e, _, q, h, k => by
    simp only [toP, Option.map_eq_some_iff] at h
    obtain ⟨ps, h, rfl⟩ := h
    cases e <;> simp [toP] at k <;> (first | (obtain ⟨qs, k, rfl⟩ := k) | subst k) <;> simp only [PyData.eqv, eqD]
    · exact eqvs_D h k
    · exact eqvs_D h k
  | .obj _ _ _, _, _, _, h, _ => by simp [toP] at h
  | .ref _, _, _, _, h, _ => by simp [toP] at h
theorem eqvs_D : ∀ {ds es : List D} {ps qs : List PyData}, toPs ds = some ps → toPs es = some qs → PyData.eqvAll ps qs = eqDs ds es
  | [], es, _, _, h, k => by
    cases h
    cases es with
    | nil => cases k; simp [PyData.eqvAll, eqDs]
    | cons e es =>
      unfold toPs at k
      split at k
      · cases k; simp [PyData.eqvAll, eqDs]
      · cases k
  | d :: ds, es, _, _, h, k => by
    unfold toPs at h
    split at h
    · rename_i p ps h1 h2
      cases h
      cases es with
      | nil => cases k; simp [PyData.eqvAll, eqDs]
      | cons e es =>
        unfold toPs at k
        split at k
        · rename_i q qs k1 k2
          cases k
          simp only [PyData.eqvAll, eqDs]
          rw [eqv_D h1 k1, eqvs_D h2 k2]
        · cases k
    · cases h
end
theorem toPM_pl {d : D} {M : Sto} (h : plD d = true) : toPM M d = toP d := by cases d <;> first | rfl | (unfold plD at h; cases h)
theorem eq_pl {d e : D} {M : Sto} (h : plD d = true) (k : plD e = true) (h1 : depD d ≤ 64) (k1 : depD e ≤ 64) : fEq d e M = some (eqD d e) := by
  obtain ⟨p, e1, c1, n1⟩ := toP_pl h
  obtain ⟨q, e2, c2, n2⟩ := toP_pl k
  unfold fEq
  rw [toPM_pl h, toPM_pl k, e1, e2]
  dsimp only
  rw [if_pos, eqv_D e1 e2]
  unfold SeqAt.shaped
  rw [c1, c2, n1, n2]
  simp [h1, k1]
theorem ne_pl {d e : D} {M : Sto} (h : plD d = true) (k : plD e = true) (h1 : depD d ≤ 64) (k1 : depD e ≤ 64) : fNe d e M = some (!eqD d e) := by
  unfold fNe
  rw [eq_pl h k h1 k1]
  rfl
@[simp] theorem eq_i {i j : Int} {M : Sto} : fEq (.int i) (.int j) M = some (decide (i = j)) := by
  rw [eq_pl rfl rfl (Nat.zero_le _) (Nat.zero_le _)]
  simp [eqD, BEq.beq]
@[simp] theorem ne_i {i j : Int} {M : Sto} : fNe (.int i) (.int j) M = some (!decide (i = j)) := by
  unfold fNe; rw [eq_i]; rfl
@[simp] theorem eq_b {i j : Bool} {M : Sto} : fEq (.bl i) (.bl j) M = some (i == j) := by
  rw [eq_pl rfl rfl (Nat.zero_le _) (Nat.zero_le _)]
  simp [eqD]
@[simp] theorem ne_b {i j : Bool} {M : Sto} : fNe (.bl i) (.bl j) M = some (!(i == j)) := by
  unfold fNe; rw [eq_b]; rfl
theorem eq_s {x y : Str} {M : Sto} (h : PyData.strOk x = true) (k : PyData.strOk y = true) : fEq (.str x) (.str y) M = some (decide (x = y)) := by
  rw [eq_pl (by unfold plD; exact h) (by unfold plD; exact k) (Nat.zero_le _) (Nat.zero_le _)]
  unfold eqD
  dsimp only
  by_cases e : x = y
  · subst e; simp
  · rw [beq_eq_false_iff_ne.mpr e, decide_eq_false e]
/-! if-then-else and the binds -/
@[simp] theorem bind_ite {α β : Type} {c : Prop} [Decidable c] {a b : Res α} {f : α → Sto → Res β} : (if c then a else b).bind f = if c then a.bind f else b.bind f := by split <;> rfl
@[simp] theorem toS_ite {α : Type} {c : Prop} [Decidable c] {a b : Res α} {Γ : DEnv} {f : α → Sto → RS} : (if c then a else b).toS Γ f = if c then a.toS Γ f else b.toS Γ f := by split <;> rfl
theorem bind_assoc {α β γ : Type} {r : Res α} {f : α → Sto → Res β} {g : β → Sto → Res γ} : (r.bind f).bind g = r.bind fun a M => (f a M).bind g := by cases r <;> rfl
def RS.toR (r : RS) : Res D := match r with
  | .nx _ M' => .ok .non M'
  | .ret d M' => .ok d M'
  | .exc x _ M' => .exc x M'
  | _ => .stuck
@[simp] theorem toR_nx {Γ : DEnv} {M : Sto} : (RS.nx Γ M).toR = .ok .non M := rfl
@[simp] theorem toR_ret {d : D} {M : Sto} : (RS.ret d M).toR = .ok d M := rfl
@[simp] theorem toR_exc {x : Xn} {Γ : DEnv} {M : Sto} : (RS.exc x Γ M).toR = .exc x M := rfl
@[simp] theorem toR_ite {c : Prop} [Decidable c] {a b : RS} : (if c then a else b).toR = if c then a.toR else b.toR := by split <;> rfl
@[simp] theorem trim_ite {c : Prop} [Decidable c] {a b : Res D} {n : Nat} : (if c then a else b).trim n = if c then a.trim n else b.trim n := by split <;> rfl
theorem def_ap {N : Nat} {m : MS} {ds : List D} {M : Sto} : mDef N m ds M = (m (ds.map some ++ List.replicate (N - ds.length) none) M).toR.trim M.length := by
  unfold mDef runB RS.toR
  cases m (ds.map some ++ List.replicate (N - ds.length) none) M <;> rfl
/-- nothing new stands -/
theorem trim_len {d : D} {M : Sto} {n : Nat} (h : M.length ≤ n) : (Res.ok d M).trim n = .ok d M := by
  unfold Res.trim
  dsimp only
  rw [List.take_of_length_le h]
  split <;> rfl
@[simp] theorem trim_self {d : D} {M : Sto} : (Res.ok d M).trim M.length = .ok d M := trim_len (Nat.le_refl _)
@[simp] theorem trim_set {d : D} {M : Sto} {i : Nat} {o : MO} : (Res.ok d (M.set i o)).trim M.length = .ok d (M.set i o) := trim_len (by simp)
theorem trim_app {d : D} {M M' : Sto} (h : d.low M.length = true) (hM : M.all (MO.low M.length) = true) : (Res.ok d (M ++ M')).trim M.length = .ok d M := by
  unfold Res.trim
  dsimp only
  rw [List.take_left, if_pos ⟨h, hM⟩]
end DL

namespace DL
open PySem
/-! walks of lists -/
/-- a list of whole numbers -/
def il (w : List Int) : List D := w.map D.int
@[simp] theorem il_len {w : List Int} : (il w).length = w.length := by simp [il]
@[simp] theorem il_nil : il [] = [] := rfl
theorem il_cons {a : Int} {w : List Int} : il (a :: w) = .int a :: il w := rfl
theorem il_app {a b : List Int} : il (a ++ b) = il a ++ il b := by simp [il]
theorem il_inj : ∀ {a b : List Int}, il a = il b → a = b
  | [], [], _ => rfl
  | [], _ :: _, h => by cases h
  | _ :: _, [], h => by cases h
  | x :: a, y :: b, h => by
    rw [il_cons, il_cons] at h
    injection h with h1 h2
    injection h1 with h1
    rw [h1, il_inj h2]
section
variable {Γ : DEnv} {M : Sto} {g : MG} {t : MT} {e : ME}
@[simp] theorem sq_tup {ds : List D} : seqOf M (.tup ds) = some ds := rfl
@[simp] theorem sq_lst {ds : List D} : seqOf M (.lst ds) = some ds := rfl
@[simp] theorem sq_scr {ds : List D} : seqOf M (.scr ds) = some ds := rfl
theorem sq_ref {n : Nat} {ds : List D} (h : M[n]? = some (.lst ds)) : seqOf M (.ref n) = some ds := by
  unfold seqOf lstOf; dsimp only; rw [h]
@[simp] theorem ls_lst {ds : List D} : lstOf M (.lst ds) = some ds := rfl
theorem ls_ref {n : Nat} {ds : List D} (h : M[n]? = some (.lst ds)) : lstOf M (.ref n) = some ds := by
  unfold lstOf; dsimp only; rw [h]
@[simp] theorem sum_lst {ns : List Int} : fSum [.lst (ns.map D.int)] M = .ok (.int ns.sum) M := by
  unfold fSum
  simp [isTup]
@[simp] theorem sum_il {ns : List Int} : fSum [.lst (il ns)] M = .ok (.int ns.sum) M := sum_lst
@[simp] theorem tuple_lst {ds : List D} : fTuple [.lst ds] M = .ok (.tup ds) M := rfl
@[simp] theorem tuple_tup {ds : List D} : fTuple [.tup ds] M = .ok (.tup ds) M := rfl
@[simp] theorem abs_i {i : Int} : fAbs [.int i] M = .ok (.int (i.natAbs : Int)) M := by
  have : (if i < 0 then -i else i) = (i.natAbs : Int) := by split <;> omega
  show Res.ok (D.int (if i < 0 then -i else i)) M = _
  rw [this]
@[simp] theorem int_b {b : Bool} : fInt [.bl b] M = .ok (.int (if b = true then 1 else 0)) M := by cases b <;> rfl
@[simp] theorem int_i {i : Int} : fInt [.int i] M = .ok (.int i) M := rfl
@[simp] theorem max_i {i j : Int} : fMax2 [.int i, .int j] M = .ok (.int (max i j)) M := by
  have : (if j > i then j else i) = max i j := by split <;> omega
  show Res.ok (D.int (if j > i then j else i)) M = _
  rw [this]
@[simp] theorem min_i {i j : Int} : fMin2 [.int i, .int j] M = .ok (.int (min i j)) M := by
  have : (if j < i then j else i) = min i j := by split <;> omega
  show Res.ok (D.int (if j < i then j else i)) M = _
  rw [this]
theorem len_sq {d : D} {ds : List D} (h : seqOf M d = some ds) (hs : ∀ x, d ≠ .str x) : fLen [d] M = .ok (.int ds.length) M := by
  unfold fLen lenOf
  cases d with
  | str x => exact absurd rfl (hs x)
  | _ => simp [h]
@[simp] theorem len_tup {ds : List D} : fLen [.tup ds] M = .ok (.int ds.length) M := len_sq rfl (fun _ h => by cases h)
@[simp] theorem len_lst {ds : List D} : fLen [.lst ds] M = .ok (.int ds.length) M := len_sq rfl (fun _ h => by cases h)
@[simp] theorem len_scr {ds : List D} : fLen [.scr ds] M = .ok (.int ds.length) M := len_sq rfl (fun _ h => by cases h)
theorem len_ref {n : Nat} {ds : List D} (h : M[n]? = some (.lst ds)) : fLen [.ref n] M = .ok (.int ds.length) M := len_sq (sq_ref h) (fun _ h => by cases h)
/-- a slice from a place on -/
theorem cut_from {ds : List D} {k : Nat} : cutD ds (some (k : Int)) none = ds.drop k := by
  unfold cutD HT.sIx
  dsimp only
  rw [if_neg (by omega), Int.toNat_natCast]
  rcases Nat.le_total k ds.length with h | h
  · rw [Nat.min_eq_left h, List.take_of_length_le (by rw [List.length_drop]; exact Nat.le_refl _)]
  · rw [Nat.min_eq_right h, List.drop_length, List.drop_of_length_le h]
    simp
@[simp] theorem sl_lst {ds : List D} {lo hi : Option Int} : fSl (.lst ds) lo hi M = .ok (.lst (cutD ds lo hi)) M := rfl
@[simp] theorem sl_tup {ds : List D} {lo hi : Option Int} : fSl (.tup ds) lo hi M = .ok (.tup (cutD ds lo hi)) M := rfl
theorem sl_ref {n : Nat} {ds : List D} {lo hi : Option Int} (h : M[n]? = some (.lst ds)) : fSl (.ref n) lo hi M = .ok (.lst (cutD ds lo hi)) M := by
  unfold fSl
  dsimp only
  rw [sq_ref h]
  rfl
@[simp] theorem cut_1 {ds : List D} : cutD ds (some 1) none = ds.drop 1 := cut_from (k := 1)
@[simp] theorem step_lst {lo st : Nat} {ds : List D} : fStep lo st (.lst ds) M = .ok (.lst (stepD lo st ds)) M := rfl
theorem step_ref {n lo st : Nat} {ds : List D} (h : M[n]? = some (.lst ds)) : fStep lo st (.ref n) M = .ok (.lst (stepD lo st ds)) M := by
  unfold fStep
  rw [ls_ref h]
@[simp] theorem add_lst {xs ys : List D} : fAdd (.lst xs) (.lst ys) M = if xs.length + ys.length ≤ 16777216 then .ok (.lst (xs ++ ys)) M else .stuck := rfl
theorem add_fit {xs ys : List D} (h : xs.length + ys.length ≤ 16777216) : fAdd (.lst xs) (.lst ys) M = .ok (.lst (xs ++ ys)) M := add_lst.trans (if_pos h)
@[simp] theorem add_tup {xs ys : List D} : fAdd (.tup xs) (.tup ys) M = if xs.length + ys.length ≤ 16777216 then .ok (.tup (xs ++ ys)) M else .stuck := rfl
theorem in_str {x : Str} {ys : List Str} : fIn (.str x) (.tup (ys.map D.str)) M = some (decide (x ∈ ys)) := by
  unfold fIn
  have h : (ys.map D.str).all flatD = true := by simp [flatD]
  simp only [sq_tup]
  rw [if_pos ⟨rfl, h⟩]
  congr 1
  unfold inD
  clear h
  induction ys with
  | nil => simp
  | cons y ys ih =>
    rw [List.map_cons, List.any_cons, ih]
    by_cases e : y = x
    · subst e; simp [eqD0]
    · have : eqD0 (.str y) (.str x) = false := beq_eq_false_iff_ne.mpr e
      rw [this, Bool.false_or]
      congr 1
      simp only [List.mem_cons, eq_iff_iff]
      exact ⟨fun h => .inr h, fun h => h.resolve_left fun z => e z.symm⟩
theorem in2 {x a b : Str} : fIn (.str x) (.tup [.str a, .str b]) M = some (decide (x = a ∨ x = b)) := by
  have := in_str (M := M) (x := x) (ys := [a, b])
  simp only [List.map_cons, List.map_nil] at this
  rw [this]
  simp
theorem notin2 {x a b : Str} : fNotIn (.str x) (.tup [.str a, .str b]) M = some (!decide (x = a ∨ x = b)) := by
  unfold fNotIn; rw [in2]; rfl
@[simp] theorem lc_nil : lcL g t e kT Γ [] M = .ok [] M := rfl
/-- one turn -/
theorem lc_cons {d : D} {ds : List D} : lcL g t e kT Γ (d :: ds) M = (g d Γ M).noX.bind fun Γ1 M1 => (t Γ1 M1).noX.bind fun b M2 => if b = true then (e Γ1 M2).noX.bind fun y M3 => (lcL g t e kT Γ ds M3).bind fun ys M4 => .ok (y :: ys) M4 else lcL g t e kT Γ ds M2 := by
  conv => lhs; unfold lcL
  rw [if_pos (by rfl)]
theorem lc_turn {d y : D} {ds : List D} {Γ1 : DEnv} {M1 M2 M3 : Sto} (h1 : g d Γ M = .ok Γ1 M1) (h2 : t Γ1 M1 = .ok true M2) (h3 : e Γ1 M2 = .ok y M3) : lcL g t e kT Γ (d :: ds) M = (lcL g t e kT Γ ds M3).bind fun ys M4 => .ok (y :: ys) M4 := by
  rw [lc_cons, h1]
  simp only [noX_ok, Res.bind_ok]
  rw [h2]
  simp only [noX_ok, Res.bind_ok, if_true]
  rw [h3]
  rfl
theorem lc_skip {d : D} {ds : List D} {Γ1 : DEnv} {M1 M2 : Sto} (h1 : g d Γ M = .ok Γ1 M1) (h2 : t Γ1 M1 = .ok false M2) : lcL g t e kT Γ (d :: ds) M = lcL g t e kT Γ ds M2 := by
  rw [lc_cons, h1]
  simp only [noX_ok, Res.bind_ok]
  rw [h2]
  simp
theorem lc_map {α : Type} {c r : α → D} : ∀ (xs : List α), (∀ x ∈ xs, ∃ Γ', g (c x) Γ M = .ok Γ' M ∧ t Γ' M = .ok true M ∧ e Γ' M = .ok (r x) M) → lcL g t e kT Γ (xs.map c) M = .ok (xs.map r) M
  | [], _ => rfl
  | x :: xs, h => by
    obtain ⟨Γ', h1, h2, h3⟩ := h x (by simp)
    rw [List.map_cons, lc_turn h1 h2 h3, lc_map xs fun y hy => h y (by simp [hy])]
    rfl
theorem lc_filter {α : Type} {c r : α → D} {p : α → Bool} : ∀ (xs : List α), (∀ x ∈ xs, ∃ Γ', g (c x) Γ M = .ok Γ' M ∧ t Γ' M = .ok (p x) M ∧ (p x = true → e Γ' M = .ok (r x) M)) → lcL g t e kT Γ (xs.map c) M = .ok ((xs.filter p).map r) M
  | [], _ => rfl
  | x :: xs, h => by
    obtain ⟨Γ', h1, h2, h3⟩ := h x (by simp)
    have ih := lc_filter xs fun y hy => h y (by simp [hy])
    cases hp : p x with
    | true =>
      rw [hp] at h2
      rw [List.map_cons, lc_turn h1 h2 (h3 hp), ih, List.filter_cons_of_pos hp]
      rfl
    | false =>
      rw [hp] at h2
      rw [List.map_cons, lc_skip h1 h2, ih, List.filter_cons_of_neg (by rw [hp]; decide)]
/-- with a state that goes along -/
theorem lc_inv {α : Type} {c : α → D} {I : Sto → Prop} {R : α → D → Prop} : ∀ (xs : List α) (M : Sto), I M → (∀ x ∈ xs, ∀ M, I M → ∃ Γ' M1 M2 y M3, g (c x) Γ M = .ok Γ' M1 ∧ t Γ' M1 = .ok true M2 ∧ e Γ' M2 = .ok y M3 ∧ I M3 ∧ R x y) →
    ∃ ys M', lcL g t e kT Γ (xs.map c) M = .ok ys M' ∧ I M' ∧ Paired R xs ys
  | [], M, hI, _ => ⟨[], M, rfl, hI, .nil⟩
  | x :: xs, M, hI, h => by
    obtain ⟨Γ', M1, M2, y, M3, h1, h2, h3, hI3, r⟩ := h x (by simp) M hI
    obtain ⟨ys, M', e1, hI', p⟩ := lc_inv xs M3 hI3 fun y hy => h y (by simp [hy])
    exact ⟨y :: ys, M', by rw [List.map_cons, lc_turn h1 h2 h3, e1]; rfl, hI', .cons r p⟩
variable {it1 : MI} {g1 : MG} {vs1 : List Nat} {t1 : MT}
/-- two clauses, the state as it is -/
theorem lc2_map {α : Type} {c : α → D} {r : α → List D} : ∀ (xs : List α), (∀ x ∈ xs, ∃ Γ' ds, g (c x) Γ M = .ok Γ' M ∧ t Γ' M = .ok true M ∧ it1 Γ' M = .ok (ds, kT) M ∧ lcL g1 t1 e kT (dwipe Γ' vs1) ds M = .ok (r x) M) →
    lcL2 g t it1 g1 vs1 t1 e kT Γ (xs.map c) M = .ok (xs.flatMap r) M
  | [], _ => rfl
  | x :: xs, h => by
    obtain ⟨Γ', ds, h1, h2, h3, h4⟩ := h x (by simp)
    have ih := lc2_map xs fun y hy => h y (by simp [hy])
    rw [List.map_cons]
    unfold lcL2
    rw [if_pos (by rfl), h1]
    simp only [noX_ok, Res.bind_ok]
    rw [h2]
    simp only [noX_ok, Res.bind_ok, if_true]
    rw [h3]
    simp only [noX_ok, Res.bind_ok]
    rw [h4]
    simp only [Res.bind_ok]
    rw [ih]
    simp
variable {body : MS}
/-- a for that runs through -/
theorem for_inv {ds : List D} {I : Nat → DEnv → Sto → Prop} (h0 : I 0 Γ M) (h : ∀ (i : Nat) (d : D) Γ M, ds[i]? = some d → I i Γ M → ∃ Γ1 M1 Γ2 M2, g d Γ M = .ok Γ1 M1 ∧ (body Γ1 M1 = .nx Γ2 M2 ∨ body Γ1 M1 = .ct Γ2 M2) ∧ I (i + 1) Γ2 M2) :
    ∃ Γ' M', forL g body kT ds Γ M = .nx Γ' M' ∧ I ds.length Γ' M' := by
  suffices ∀ (es : List D) (k : Nat) Γ M, ds.drop k = es → k ≤ ds.length → I k Γ M → ∃ Γ' M', forL g body kT es Γ M = .nx Γ' M' ∧ I ds.length Γ' M' from this ds 0 Γ M rfl (Nat.zero_le _) h0
  intro es
  induction es with
  | nil =>
    intro k Γ M hd hk hI
    have : k = ds.length := by
      have := List.drop_eq_nil_iff.mp hd
      omega
    subst this
    exact ⟨Γ, M, rfl, hI⟩
  | cons d es ih =>
    intro k Γ M hd hk hI
    have hlt : k < ds.length := by
      by_cases q : k < ds.length
      · exact q
      · rw [List.drop_of_length_le (by omega)] at hd; cases hd
    have hd' : ds[k]? = some d ∧ ds.drop (k + 1) = es := by
      rw [List.drop_eq_getElem_cons hlt] at hd
      cases hd
      exact ⟨by simp [hlt], rfl⟩
    obtain ⟨Γ1, M1, Γ2, M2, h1, h2, h3⟩ := h k d Γ M hd'.1 hI
    obtain ⟨Γ', M', h4, h5⟩ := ih (k + 1) Γ2 M2 hd'.2 hlt h3
    refine ⟨Γ', M', ?_, h5⟩
    unfold forL
    rw [if_pos (by rfl), h1]
    simp only [toSG_ok]
    rcases h2 with h2 | h2 <;> rw [h2] <;> exact h4
/-- a while that ends by its test -/
theorem wh_run {I : Nat → DEnv → Sto → Prop} {Q : DEnv → Sto → Prop} (h : ∀ n Γ M, I n Γ M → (∃ M1, t Γ M = .ok false M1 ∧ Q Γ M1) ∨ ∃ n' M1 Γ2 M2, n' < n ∧ t Γ M = .ok true M1 ∧ (body Γ M1 = .nx Γ2 M2 ∨ body Γ M1 = .ct Γ2 M2) ∧ I n' Γ2 M2) :
    ∀ (N n : Nat) Γ M, n < N → I n Γ M → ∃ Γ' M', whL t body N Γ M = .nx Γ' M' ∧ Q Γ' M'
  | 0, n, _, _, hn, _ => by omega
  | N + 1, n, Γ, M, hn, hI => by
    rcases h n Γ M hI with ⟨M1, h1, h2⟩ | ⟨n', M1, Γ2, M2, hlt, h1, h2, h3⟩
    · exact ⟨Γ, M1, by unfold whL; rw [h1]; rfl, h2⟩
    · obtain ⟨Γ', M', h4, h5⟩ := wh_run h N n' Γ2 M2 (by omega) h3
      refine ⟨Γ', M', ?_, h5⟩
      unfold whL
      rw [h1]
      simp only [toS_ok, if_true]
      rcases h2 with h2 | h2 <;> rw [h2] <;> exact h4
end
mutual
theorem low_mono {n m : Nat} (h : n ≤ m) : ∀ {d : D}, d.low n = true → d.low m = true
  | .non, _ => rfl
  | .bl _, _ => rfl
  | .int _, _ => rfl
  | .str _, _ => rfl
  | .tup _, k => by unfold D.low at k ⊢; exact lows_mono h k
  | .lst _, k => by unfold D.low at k ⊢; exact lows_mono h k
  | .scr _, k => by unfold D.low at k ⊢; exact lows_mono h k
  | .obj _ _ _, k => by unfold D.low at k ⊢; exact lows_mono h k
  | .ref _, k => by unfold D.low at k ⊢; rw [decide_eq_true_eq] at k ⊢; omega
theorem lows_mono {n m : Nat} (h : n ≤ m) : ∀ {ds : List D}, lows n ds = true → lows m ds = true
  | [], _ => rfl
  | _ :: _, k => by
    unfold lows at k ⊢
    rw [Bool.and_eq_true] at k ⊢
    exact ⟨low_mono h k.1, lows_mono h k.2⟩
end
theorem mo_mono {n m : Nat} (h : n ≤ m) {o : MO} (k : o.low n = true) : o.low m = true := by
  cases o with
  | lst ds => exact lows_mono h k
  | ins _ _ ds => exact lows_mono h k
  | dk _ ds => exact lows_mono h k
  | dt _ ds => exact lows_mono h k
  | dead => rfl
/-- a store that tells of nothing above it -/
def Cl (M : Sto) : Prop := M.all (MO.low M.length) = true
theorem Cl.app {M : Sto} (h : Cl M) {o : MO} (k : o.low (M.length + 1) = true) : Cl (M ++ [o]) := by
  unfold Cl at h ⊢
  rw [List.all_append, Bool.and_eq_true, List.length_append, List.length_cons, List.length_nil]
  rw [List.all_eq_true] at h
  exact ⟨by rw [List.all_eq_true]; exact fun o ho => mo_mono (by omega) (h o ho), by simp [k]⟩
theorem lows_app {n : Nat} : ∀ {xs ys : List D}, lows n (xs ++ ys) = (lows n xs && lows n ys)
  | [], ys => by simp [lows]
  | x :: xs, ys => by rw [List.cons_append, lows, lows, lows_app, Bool.and_assoc]
theorem lows_all {n : Nat} : ∀ {xs : List D}, (∀ x ∈ xs, x.low n = true) → lows n xs = true
  | [], _ => rfl
  | x :: xs, h => by rw [lows, h x (by simp), lows_all fun y hy => h y (by simp [hy])]; rfl
theorem trim_cl {d : D} {M : Sto} {M' : Sto} (h : d.low M.length = true) (hM : Cl M) : (Res.ok d (M ++ M')).trim M.length = .ok d M := trim_app h hM
theorem get_app {M : Sto} {o : MO} : (M ++ [o])[M.length]? = some o := by
  rw [List.getElem?_append_right (Nat.le_refl _), Nat.sub_self]; rfl
theorem set_app {M : Sto} {o p : MO} : (M ++ [o]).set M.length p = M ++ [p] := by
  rw [List.set_append_right _ _ (Nat.le_refl _), Nat.sub_self]; rfl
theorem append_app {M : Sto} {xs : List D} {d : D} (h : xs.length < 16777216) : fAppend (.ref M.length) [d] (M ++ [.lst xs]) = .ok .non (M ++ [.lst (xs ++ [d])]) := by
  unfold fAppend
  dsimp only
  rw [get_app]
  dsimp only
  rw [if_pos h, set_app]
theorem preL_app {M : Sto} {xs : List D} : preL (M ++ [.lst xs]) (.ref M.length) = true := by
  unfold preL lstOf
  dsimp only
  rw [get_app]
  rfl
theorem freeze_app {M : Sto} {xs : List D} : fFreeze (.ref M.length) (M ++ [.lst xs]) = .ok (.lst xs) (M ++ [.dead]) := by
  unfold fFreeze
  dsimp only
  rw [get_app]
  dsimp only
  rw [set_app]
theorem upTo_get {lo hi : Int} {i : Nat} {d : D} (h : (upTo lo hi)[i]? = some d) : d = .int (lo + i) ∧ (i : Int) < hi - lo := by
  unfold upTo at h
  rw [List.getElem?_map] at h
  by_cases hi' : i < (hi - lo).toNat
  · rw [List.getElem?_range hi'] at h
    simp at h
    exact ⟨h.symm, by omega⟩
  · rw [List.getElem?_eq_none (by simp; omega)] at h
    cases h
theorem upTo_len {lo hi : Int} : (upTo lo hi).length = (hi - lo).toNat := by simp [upTo]
end DL

/-! sorted({e for .. for ..}), whole numbers (the road of the two-clause list comprehension, turned to sets) -/
namespace DL
open PySem PySem.Spec PyProof.Rows L2
theorem turnS_out (elt t0 i0 t1 i1 : Expr) (ifs0 ifs1 : List Expr) (scope : Scope) (pos : Pos) (it acc : Value) (env : Env) :
    compTurn (.SetComp elt [⟨t0, i0, ifs0, 0⟩, ⟨t1, i1, ifs1, 0⟩] scope pos) 0 it acc env = (do
      standAt i0.pos
      match ← pyNext it with
      | none => pure (.done .next)
      | some v =>
        letOwnedTupleGo t0 it v
        assign t0 env v
        let mut ok := true
        for c in ifs0 do
          if ok then ok ← isTrue c env (eval c env)
        if ok then
          let x ← eval i1 env
          standAt i1.pos
          let x ← foldedSetIterable i1 env x
          let _ ← runOwn (.compStart (.SetComp elt [⟨t0, i0, ifs0, 0⟩, ⟨t1, i1, ifs1, 0⟩] scope pos) 1 (← holding [x] (pyIter x)) acc env) env
        again (.compLoop (.SetComp elt [⟨t0, i0, ifs0, 0⟩, ⟨t1, i1, ifs1, 0⟩] scope pos) 0 it acc env)) := by rfl
theorem turnS_in (elt t0 i0 t1 i1 : Expr) (ifs0 ifs1 : List Expr) (scope : Scope) (pos : Pos) (it acc : Value) (env : Env) :
    compTurn (.SetComp elt [⟨t0, i0, ifs0, 0⟩, ⟨t1, i1, ifs1, 0⟩] scope pos) 1 it acc env = (do
      standAt i1.pos
      match ← pyNext it with
      | none => pure (.done .next)
      | some v =>
        letOwnedTupleGo t1 it v
        assign t1 env v
        let mut ok := true
        for c in ifs1 do
          if ok then ok ← isTrue c env (eval c env)
        if ok then
          (do let v ← eval elt env; standAt elt.pos; let _ ← call (.builtin "set.add") [acc, v])
        again (.compLoop (.SetComp elt [⟨t0, i0, ifs0, 0⟩, ⟨t1, i1, ifs1, 0⟩] scope pos) 1 it acc env)) := by rfl
section
variable {prog : Program} {w : World} {A : Around} {R : Result → Shared → Prop} {s : Shared} {elt t0 i0 t1 i1 : Expr} {ifs0 ifs1 : List Expr} {scope : Scope} {pos : Pos} {it acc : Value} {env : Env}
/-- the loop of the first clause -/
theorem loopS_out (hs : ∀ x, foldedSetIterable i1 env x = pure x) (I : Nat → Shared → Prop)
    (turn : ∀ n s, I n s → wpAny (model prog w) A (pyNext it) (fun r s₁ => match r with
      | none => R (.ok .next) s₁
      | some v => wpAny (model prog w) A (letOwnedTupleGo t0 it v) (fun _ s₁' => wpAny (model prog w) A (assign t0 env v) (fun _ s₂ =>
          wpAny (model prog w) A (forIn ifs0 true fun c r => if r = true then do let ok ← isTrue c env (eval c env); pure (ForInStep.yield ok) else pure (ForInStep.yield r)) (fun ok s₃ =>
            if ok = true then wpAny (model prog w) A (eval i1 env) (fun x s₄ => wpAny (model prog w) A (pyIter x) (fun it1 s₅ =>
              codeAny (model prog w) A (.compStart (.SetComp elt [⟨t0, i0, ifs0, 0⟩, ⟨t1, i1, ifs1, 0⟩] scope pos) 1 it1 acc env) (fun r s' => match r with
                | .ok _ => ∃ m, m < n ∧ I m s'
                | .error _ => False) s₅) (notedBy (model prog w) A env fun e s' => R (.error e) s') s₄) (notedBy (model prog w) A env fun e s' => R (.error e) s') s₃
            else ∃ m, m < n ∧ I m s₃) (notedBy (model prog w) A env fun e s' => R (.error e) s') s₂) (notedBy (model prog w) A env fun e s' => R (.error e) s') s₁') (notedBy (model prog w) A env fun e s' => R (.error e) s') s₁) (notedBy (model prog w) A env fun e s' => R (.error e) s') s)
    (n : Nat) (h : I n s) :
    codeAny (model prog w) A (.compLoop (.SetComp elt [⟨t0, i0, ifs0, 0⟩, ⟨t1, i1, ifs1, 0⟩] scope pos) 0 it acc env) R s := by
  refine codeAny_loop rfl I (fun n s hI => ?_) n h
  show wpAny _ A ((compTurn (.SetComp elt [⟨t0, i0, ifs0, 0⟩, ⟨t1, i1, ifs1, 0⟩] scope pos) 0 it acc env).onRaise (fun x => do noteFrame x env; theTreesLotGoes x)) _ _ s
  refine wpAny_noted ?_
  rw [turnS_out]
  refine wpAny_bind (wpAny_standAt (wpAny_bind (wpAny_mono (turn n s hI) (fun r s₁ h₁ => ?_) fun _ _ h' => h')))
  cases r with
  | none => exact wpAny_pure h₁
  | some v =>
    refine wpAny_bind (wpAny_mono h₁ (fun _ s₁' h₁' => ?_) fun _ _ h' => h')
    refine wpAny_bind (wpAny_mono h₁' (fun _ s₂ h₂ => wpAny_bind (wpAny_mono h₂ (fun ok s₃ h₃ => ?_) fun _ _ h' => h')) fun _ _ h' => h')
    cases ok with
    | false => exact wpAny_pure ⟨rfl, h₃⟩
    | true =>
      refine wpAny_bind (wpAny_mono h₃ (fun x s₄ h₄ => ?_) fun _ _ h' => h')
      refine wpAny_bind (wpAny_standAt (wpAny_bind (wpAny_of_eq (hs x) (wpAny_bind (wpAny_holding (wpAny_mono h₄ (fun it1 s₅ h₅ => ?_) fun _ _ h' => h'))))))
      refine wpAny_bind (wpAny_runOwn ?_)
      rw [Around.mark_none]
      refine codeAny_mono h₅ fun r s' hr => ?_
      cases r with
      | ok f =>
        first
          | exact wpAny_pure ⟨rfl, hr⟩
          | exact wpAny_bind (wpAny_pure (wpAny_pure ⟨rfl, hr⟩))
      | error e => exact hr.elim
/-- the loop of the second -/
theorem loopS_in (I : Nat → Shared → Prop)
    (turn : ∀ n s, I n s → wpAny (model prog w) A (pyNext it) (fun r s₁ => match r with
      | none => R (.ok .next) s₁
      | some v => wpAny (model prog w) A (letOwnedTupleGo t1 it v) (fun _ s₁' => wpAny (model prog w) A (assign t1 env v) (fun _ s₂ =>
          wpAny (model prog w) A (forIn ifs1 true fun c r => if r = true then do let ok ← isTrue c env (eval c env); pure (ForInStep.yield ok) else pure (ForInStep.yield r)) (fun ok s₃ =>
            if ok = true then wpAny (model prog w) A (eval elt env) (fun x s₄ =>
              wpAny (model prog w) A (call (.builtin "set.add") [acc, x]) (fun _ s₅ => ∃ m, m < n ∧ I m s₅) (notedBy (model prog w) A env fun e s' => R (.error e) s') s₄) (notedBy (model prog w) A env fun e s' => R (.error e) s') s₃
            else ∃ m, m < n ∧ I m s₃) (notedBy (model prog w) A env fun e s' => R (.error e) s') s₂) (notedBy (model prog w) A env fun e s' => R (.error e) s') s₁') (notedBy (model prog w) A env fun e s' => R (.error e) s') s₁) (notedBy (model prog w) A env fun e s' => R (.error e) s') s)
    (n : Nat) (h : I n s) :
    codeAny (model prog w) A (.compLoop (.SetComp elt [⟨t0, i0, ifs0, 0⟩, ⟨t1, i1, ifs1, 0⟩] scope pos) 1 it acc env) R s := by
  refine codeAny_loop rfl I (fun n s hI => ?_) n h
  show wpAny _ A ((compTurn (.SetComp elt [⟨t0, i0, ifs0, 0⟩, ⟨t1, i1, ifs1, 0⟩] scope pos) 1 it acc env).onRaise (fun x => do noteFrame x env; theTreesLotGoes x)) _ _ s
  refine wpAny_noted ?_
  rw [turnS_in]
  refine wpAny_bind (wpAny_standAt (wpAny_bind (wpAny_mono (turn n s hI) (fun r s₁ h₁ => ?_) fun _ _ h' => h')))
  cases r with
  | none => exact wpAny_pure h₁
  | some v =>
    refine wpAny_bind (wpAny_mono h₁ (fun _ s₁' h₁' => ?_) fun _ _ h' => h')
    refine wpAny_bind (wpAny_mono h₁' (fun _ s₂ h₂ => wpAny_bind (wpAny_mono h₂ (fun ok s₃ h₃ => ?_) fun _ _ h' => h')) fun _ _ h' => h')
    cases ok with
    | false => exact wpAny_pure ⟨rfl, h₃⟩
    | true =>
      exact wpAny_bind (wpAny_bind (wpAny_mono h₃ (fun x s₄ h₄ => wpAny_bind (wpAny_standAt (wpAny_bind (wpAny_mono h₄ (fun _ s₅ h₅ => wpAny_pure (wpAny_pure ⟨rfl, h₅⟩)) fun _ _ h' => h')))) fun _ _ h' => h'))
/-- the second clause's start -/
theorem startS1_ok (h0 : codeAny (model prog w) A (.compLoop (.SetComp elt [⟨t0, i0, ifs0, 0⟩, ⟨t1, i1, ifs1, 0⟩] scope pos) 1 it acc env) R s)
    (h : wpAny (model prog w) A (pyIter it) (fun it' s' => codeAny (model prog w) A (.compLoop (.SetComp elt [⟨t0, i0, ifs0, 0⟩, ⟨t1, i1, ifs1, 0⟩] scope pos) 1 it' acc env) R s')
      (notedBy (model prog w) A env fun x s' => R (.error x) s') s) :
    codeAny (model prog w) A (.compStart (.SetComp elt [⟨t0, i0, ifs0, 0⟩, ⟨t1, i1, ifs1, 0⟩] scope pos) 1 it acc env) R s := by
  refine codeAny_of_tree ?_
  show wpAny _ _ ((compStart (.SetComp elt [⟨t0, i0, ifs0, 0⟩, ⟨t1, i1, ifs1, 0⟩] scope pos) 1 it acc env).onRaise (fun x => do noteFrame x env; standAt theWindowsPlace)) _ _ s
  refine wpAny_notedAt ?_
  unfold compStart
  show wpAny _ _ (ask >>= _) _ _ s
  refine wpAny_bind (wpAny_askSetting (wpAny_ite ?_))
  split
  · first
      | exact wpAny_bind (wpAny_pure (wpAny_pure (And.intro rfl h0)))
      | exact wpAny_pure (And.intro rfl h0)
  · first
      | exact wpAny_bind (wpAny_rule (wpAny_bind (wpAny_standAt (wpAny_bind (wpAny_mono h (fun it' s' h' => wpAny_pure (And.intro rfl h')) fun _ _ x => x)))))
      | (refine wpAny_bind (wpAny_rule ?_); show wpAny _ _ (standAt i1.pos >>= _) _ _ s; exact wpAny_bind (wpAny_standAt (wpAny_bind (wpAny_mono h (fun it' s' h' => wpAny_pure (And.intro rfl h')) fun _ _ x => x))))
end

theorem addI_ok {X : Cx} {pins : List (Addr × Obj)} {σ : L2.St} {H : Hp} {s : Shared} {D : Addr} {S : Int → Bool} {n : Nat} {k : Int} {z : Value} {Q : Value → Shared → Prop} {E : Value → Shared → Prop} (I : L2.Inv X pins σ H s) (hD : H D = some (SetO X.w D S n)) (room : n + 1 < scanBound) (r : RelV (.int k) z)
    (h : ∀ s', L2.Inv X pins σ (upd H D (SetO X.w D (fun j => S j || decide (j = k)) (if S k = true then n else n + 1))) s' → Q .none s') : wpAny (model X.prog X.w) X.A (call (.builtin "set.add") [.ref D, z]) Q E s := by
  obtain ⟨tk, rfl⟩ := r
  have R := setO_get I hD
  refine setR_add R room fun h' sb new => ?_
  have he : ∃ u, h'.get? D = some u := by
    have ⟨o, _, _, _, ho, _⟩ := new
    exact ⟨o, ho⟩
  exact h _ (I.write (e := D) (t' := s.toks + 1) (by rw [hD]; trivial) (.inl rfl) (fun b u hb hu => (sb.2 b hb).trans hu) he (setO_new new))
section
variable {X : Cx}
/-- {elt for tg in iter if .. for tg1 in iter1 if ..}, elt a whole number -/
def tSc2 (w : World) (wi : TI) (g : TG) (tt : TT) (wi1 : TI) (g1 : TG) (tt1 : TT) (te : TE) (vs vs1 : List Nat) : TE := fun σ H Q => wi σ H fun J H1 => ∀ D, H1 D = none → ∃ W : Nat → Nat → Hp → Prop, (∃ m, W 0 m (upd H1 D (SetO w D (fun _ => false) 0))) ∧ ∀ i m H, W i m H →
  (J.stop i H ∧ Q (.ref D) H) ∨ (J.go i H ∧ ∃ Nx : Hp → Prop, (∀ H', Nx H' → ∃ m', m' < m ∧ W (i + 1) m' H') ∧ ∀ x H', J.yld i H x H' → g x (wipe σ vs) H' fun σ2 H2 => wipe σ2 vs = wipe σ vs ∧ tt σ2 H2 fun b H3 =>
    if b = true then wi1 σ2 H3 fun J1 H4 => ∃ W1 : Nat → Nat → Hp → Prop, (∃ m, W1 0 m H4) ∧ ∀ j k H, W1 j k H →
      (J1.stop j H ∧ Nx H) ∨ (J1.go j H ∧ ∃ Nx1 : Hp → Prop, (∀ H', Nx1 H' → ∃ k', k' < k ∧ W1 (j + 1) k' H') ∧ ∀ x H', J1.yld j H x H' → g1 x (wipe σ2 vs1) H' fun σ3 H5 => wipe σ3 vs1 = wipe σ2 vs1 ∧ tt1 σ3 H5 fun b H6 =>
        if b = true then te σ3 H6 fun y H7 => ∃ (c : Int) (S : Int → Bool) (n : Nat), y = .int c ∧ H7 D = some (SetO w D S n) ∧ n + 1 < scanBound ∧ Nx1 (upd H7 D (SetO w D (fun j => S j || decide (j = c)) (if S c = true then n else n + 1))) else Nx1 H6)
    else Nx H3)
theorem sc2_core {pins : List (Addr × Obj)} {s : Shared} {σ : L2.St} {H : Hp} {Q : VK} {elt tg iter tg1 iter1 : Expr} {ifs ifs1 : List Expr} {scope : Scope} {own : List (Str × Nat)} {vs1 : List Nat} {pos pos' : Pos} {wi wi1 : TI} {g g1 : TG} {tt tt1 : TT} {te : TE} {use : Option (Value → Sem Unit)} {Qf : Value → Shared → Prop}
    (hc : X.calm = true) (hN : X.N.Nodup) (I : L2.Inv X pins σ H s) (hi : PI X tg iter wi) (ok : BlkOk X.N X.env.scope scope own) (hv : ∀ i ∈ vs1, i ∈ own.map (·.2))
    (hg : ∀ (s : Shared) (H : Hp) (C : Addr) (cl : List (Str × Addr)) (fp : List Addr), PG (X.blk s H scope (compEnvC scope cl C X.env) fp) tg g) (ht : ∀ (s : Shared) (H : Hp) (C : Addr) (cl : List (Str × Addr)) (fp : List Addr), PTs (X.blk s H scope (compEnvC scope cl C X.env) fp) ifs tt)
    (he : ∀ (s : Shared) (H : Hp) (C : Addr) (cl : List (Str × Addr)) (fp : List Addr), PE (X.blk s H scope (compEnvC scope cl C X.env) fp) elt te) (hs : ∀ x, foldedSetIterable iter X.env x = pure x)
    (hi1 : ∀ (s : Shared) (H : Hp) (C : Addr) (cl : List (Str × Addr)) (fp : List Addr), PI (X.blk s H scope (compEnvC scope cl C X.env) fp) tg1 iter1 wi1)
    (hg1 : ∀ (s : Shared) (H : Hp) (C : Addr) (cl : List (Str × Addr)) (fp : List Addr), PG (X.blk s H scope (compEnvC scope cl C X.env) fp) tg1 g1)
    (ht1 : ∀ (s : Shared) (H : Hp) (C : Addr) (cl : List (Str × Addr)) (fp : List Addr), PTs (X.blk s H scope (compEnvC scope cl C X.env) fp) ifs1 tt1)
    (hs1 : ∀ env x, foldedSetIterable iter1 env x = pure x)
    (h : tSc2 X.w wi g tt wi1 g1 tt1 te (own.map (·.2)) vs1 σ H Q)
    (hRR : ∀ D C s' m H', L2.Inv X pins σ H' s' → Q (.ref D) H' → s'.heap.Ns C m → FpOk X pins H' C → compPost (model X.prog X.w) X.A X.xe use Qf (.ref D) C (.ok .next) s') :
    wpAny (model X.prog X.w) X.A (comprehension (.SetComp elt [⟨tg, iter, ifs, 0⟩, ⟨tg1, iter1, ifs1, 0⟩] scope pos) scope X.env pos' (newSet (.type "set")) false (eval iter X.env) use) Qf X.xe s := by
  have hfree : ∀ y ∈ scope.names, y.2 = .free → ∃ c, X.env.cells.lookup y.1 = some c := fun y hy e => by
    rcases ok.free y hy e with k | k
    · exact I.ok.has _ (.inl k)
    · exact I.ok.has _ (.inr k)
  refine wpAny_comprehension_free (use := use) rfl hs (closure_ok hfree) ok.kind (fun y hy e => by rw [ok.uniq y hy, e])
    (thn (hi.run pins s σ H _ I h) fun xv s1 hx => thn hx fun itv s2 h2 => ?_)
  obtain ⟨it, fp, tn, J, H2, e, I2, T, st2, f2, q⟩ := h2
  subst e
  refine PpSet.newSet_ok (newEnv_comp ?_)
  generalize hD : s2.heap.objs.size = D
  have hDn : H2 D = none := I2.hok.fresh (Nat.le_of_eq hD)
  obtain ⟨W, ⟨m0, w0⟩, turn⟩ := q D hDn
  -- the new list
  generalize hs3 : ({ s2 with heap := s2.heap.push { cls := .type "set", dict := none, data := .set #[] 0 (.fresh 0 0 (!X.w.params.followText "set-order")) } } : Shared) = s3
  have I3 : L2.Inv X pins σ (upd H2 D (SetO X.w D (fun _ => false) 0)) s3 := by
    rw [← hs3]
    refine I2.laid (t' := s2.toks) (fun b o e => Heap.get?_push_of_some _ e) (Nat.le_of_eq hD) ?_
    rw [← hD]
    exact setO_new (setR_fresh X.w)
  have h3 : s3.heap = s2.heap.push { cls := .type "set", dict := none, data := .set #[] 0 (.fresh 0 0 (!X.w.params.followText "set-order")) } := by rw [← hs3]
  have sz : ∀ b ∈ fp, b < s2.heap.objs.size := fun b hb => by
    obtain ⟨o, e, _⟩ := T.obj _ _ st2 b hb
    exact Heap.lt_size e
  have f3 : ∀ b ∈ fp, FpOk X pins (upd H2 D (SetO X.w D (fun _ => false) 0)) b ∧ b < s3.heap.objs.size := fun b hb => by
    have hlt := sz b hb
    refine ⟨⟨?_, (f2 b hb).2⟩, by rw [h3, Heap.size_push]; exact Nat.lt_succ_of_lt hlt⟩
    rw [upd_ne (by rw [← hD]; exact Nat.ne_of_lt hlt)]
    exact (f2 b hb).1
  have st3 : tn 0 s3.heap := T.keep _ _ _ st2 fun b _ o e => by rw [h3]; exact Heap.get?_push_of_some _ e
  have I4 := block_start I3 ok hN f3
  have pg := hg s3 (upd H2 D (SetO X.w D (fun _ => false) 0)) s3.heap.objs.size (cellsFrom (s3.heap.objs.size + 1) scope.names (cloFrom X.env.cells scope.names [])) fp
  have pt := ht s3 (upd H2 D (SetO X.w D (fun _ => false) 0)) s3.heap.objs.size (cellsFrom (s3.heap.objs.size + 1) scope.names (cloFrom X.env.cells scope.names [])) fp
  have pe := he s3 (upd H2 D (SetO X.w D (fun _ => false) 0)) s3.heap.objs.size (cellsFrom (s3.heap.objs.size + 1) scope.names (cloFrom X.env.cells scope.names [])) fp
  have pi1 := hi1 s3 (upd H2 D (SetO X.w D (fun _ => false) 0)) s3.heap.objs.size (cellsFrom (s3.heap.objs.size + 1) scope.names (cloFrom X.env.cells scope.names [])) fp
  have pg1 := hg1 s3 (upd H2 D (SetO X.w D (fun _ => false) 0)) s3.heap.objs.size (cellsFrom (s3.heap.objs.size + 1) scope.names (cloFrom X.env.cells scope.names [])) fp
  have pt1 := ht1 s3 (upd H2 D (SetO X.w D (fun _ => false) 0)) s3.heap.objs.size (cellsFrom (s3.heap.objs.size + 1) scope.names (cloFrom X.env.cells scope.names [])) fp
  show codeAny _ _ (.compStart (.SetComp elt [⟨tg, iter, ifs, 0⟩, ⟨tg1, iter1, ifs1, 0⟩] scope pos) 0 (.ref it) (.ref D) (compEnvC scope (cellsFrom (s3.heap.objs.size + 1) scope.names (cloFrom X.env.cells scope.names [])) s3.heap.objs.size X.env)) (compPost (model X.prog X.w) X.A X.xe use Qf (.ref D) s3.heap.objs.size) { s3 with heap := pushCells (s3.heap.push { cls := .type "dict", data := .dict #[] }) scope.names }
  have nfp : ∀ b ∈ fp, (upd H2 D (SetO X.w D (fun _ => false) 0)) b = none := fun b hb => (f3 b hb).1.1
  generalize hce : compEnvC scope (cellsFrom (s3.heap.objs.size + 1) scope.names (cloFrom X.env.cells scope.names [])) s3.heap.objs.size X.env = ce at I4 pg pt pe pi1 pg1 pt1 ⊢
  have cL : ce.locals = s3.heap.objs.size := by subst hce; rfl
  generalize hH3 : upd H2 D (SetO X.w D (fun _ => false) 0) = H3 at I3 I4 pg pt pe pi1 pg1 pt1 w0 nfp f3
  generalize hs4 : ({ s3 with heap := pushCells (s3.heap.push { cls := .type "dict", data := .dict #[] }) scope.names } : Shared) = s4 at I4 ⊢
  have st4 : tn 0 s4.heap := T.keep _ _ _ st3 fun b _ o e => by rw [← hs4]; exact pushCells_keeps _ _ _ _ (Heap.get?_push_of_some _ e)
  have stat : ∀ {σ' : L2.St} {H' : Hp} {s' : Shared}, L2.Inv (X.blk s3 H3 scope ce fp) [] σ' H' s' → (∀ b ∈ fp, H' b = none) → ∀ b ∈ fp, FpOk (X.blk s3 H3 scope ce fp) [] H' b := fun {σ' H' s'} I' hn b hb =>
    ⟨hn b hb, (I'.ok.exf b hb).1, I'.ok.exfs b hb, .inl hb, fun x c e => (I'.ok.exf b hb).2 x c e, fun p hp => absurd (show p ∈ ([] : List (Addr × Obj)) ++ [] from hp) (by simp)⟩
  have loop : codeAny (model X.prog X.w) X.A (.compLoop (.SetComp elt [⟨tg, iter, ifs, 0⟩, ⟨tg1, iter1, ifs1, 0⟩] scope pos) 0 (.ref it) (.ref D) ce) (compPost (model X.prog X.w) X.A X.xe use Qf (.ref D) s3.heap.objs.size) s4 := by
    refine loopS_out (hs1 ce) (fun n s' => ∃ i H', L2.Inv (X.blk s3 H3 scope ce fp) [] (wipe σ (own.map (·.2))) H' s' ∧ tn i s'.heap ∧ (∀ b ∈ fp, H' b = none) ∧ W i n H') ?_ m0 ⟨0, H3, I4, st4, nfp, w0⟩
    rintro n s5 ⟨i, H5, I5, st5, n5, w5⟩
    rcases turn i n H5 w5 with ⟨stop, qq⟩ | ⟨go, Nx, hNx, step⟩
    · have td := T.done (X.blk s3 H3 scope ce fp) rfl rfl rfl hc i [] s5 _ H5 (fun _ _ => False) I5 (stat I5 n5) st5 stop
      refine thnF td fun r s6 ⟨hr, I6⟩ => ?_
      subst hr
      -- back in the def's context
      have I7 : L2.Inv X pins σ H5 s6 := I3.call' (ch := fp) I6.os I6.base I6.hok I6.bare fun b hb => ⟨(f3 b hb).1.2.2.2.1, (f3 b hb).1.2.1, (f3 b hb).1.2.2.2.2.1, (f3 b hb).1.2.2.2.2.2⟩
      have nC : H5 s3.heap.objs.size = none := by
        have z : H5 ce.locals = none := I6.free
        rw [cL] at z
        exact z
      obtain ⟨m, hn, _⟩ := I6.loc
      have hn : s6.heap.Ns ce.locals m := hn
      rw [cL] at hn
      exact hRR D s3.heap.objs.size s6 m H5 I7 qq hn (I3.fpOk (Nat.le_refl _) nC)
    · have ti := T.item (X.blk s3 H3 scope ce fp) rfl rfl rfl hc i [] s5 _ H5 (fun _ _ => False) I5 (stat I5 n5) st5 go
      refine thnF ti fun r s6 ⟨u, hr, h6⟩ => ?_
      subst hr
      refine thnF h6 fun _ s7 ⟨x, H7, I7, r7, y7, st7, n7⟩ => ?_
      have I7' := I7.pinned (stat I7 n7) (T.obj _ _ st7)
      refine thnF (pg.run _ s7 _ H7 x u _ I7' r7 (step x H7 y7)) fun _ s8 ⟨σ8, H8, I8, hw8, q8⟩ => ?_
      refine thnF (pt.run _ s8 σ8 H8 _ I8 q8) fun b s9 ⟨H9, I9, q9⟩ => ?_
      -- the turn's end, from any slots that know what the block knew at its start
      have fin : ∀ {σ9 : L2.St} {s' : Shared} {H' : Hp}, L2.Inv (X.blk s3 H3 scope ce fp) ([] ++ pinsAt fp s7.heap) σ9 H' s' → (wipe σ (own.map (·.2))).length = σ9.length → (∀ (j : Nat) v, (wipe σ (own.map (·.2)))[j]? = some (some v) → σ9[j]? = some (some v)) → Nx H' →
          ∃ m, m < n ∧ ∃ i H', L2.Inv (X.blk s3 H3 scope ce fp) [] (wipe σ (own.map (·.2))) H' s' ∧ tn i s'.heap ∧ (∀ b ∈ fp, H' b = none) ∧ W i m H' := fun {σ9 s' H'} I' hl hk nx => by
        obtain ⟨m', hm, w'⟩ := hNx H' nx
        have pin' : ∀ b ∈ fp, ∀ o, s7.heap.get? b = some o → s'.heap.get? b = some o ∧ H' b = none := fun b hb o e =>
          let z := I'.pin (b, o) (List.mem_append_right _ (List.mem_append_right _ (mem_pinsAt hb e)))
          ⟨z.1, z.2.1⟩
        refine ⟨m', hm, i + 1, H', (I'.unpinned (pins := [])).weak hl hk, T.keep _ _ _ st7 fun b hb o e => (pin' b hb o e).1, fun b hb => ?_, w'⟩
        obtain ⟨o, e, _⟩ := T.obj _ _ st7 b hb
        exact (pin' b hb o e).2
      have hl8 : (wipe σ (own.map (·.2))).length = σ8.length := by rw [← hw8, wipe_length]
      have hk8 : ∀ (j : Nat) v, (wipe σ (own.map (·.2)))[j]? = some (some v) → σ8[j]? = some (some v) := fun j v e => by
        rw [← hw8] at e
        exact (wipe_some e).1
      have hk9 : ∀ (j : Nat) v, (wipe σ (own.map (·.2)))[j]? = some (some v) → (wipe σ8 vs1)[j]? = some (some v) := fun j v e => by
        rw [← hw8] at e
        obtain ⟨e1, e2⟩ := wipe_some e
        rw [wipe_out fun z => e2 (hv j z)]
        exact e1
      cases b with
      | false =>
        simp only [Bool.false_eq_true, if_false] at q9 ⊢
        exact fin I9 hl8 hk8 q9
      | true =>
        simp only [if_true] at q9 ⊢
        refine thnF (pi1.run _ s9 σ8 H9 _ I9 q9) fun xv s10 hx => thnF hx fun itv s11 h11 => ?_
        obtain ⟨it1, fp1, tn1, J1, H11, e1, I11, T1, st11, f11, W1, ⟨m1, w1⟩, turn1⟩ := h11
        subst e1
        -- the inner loop
        have stat1 : ∀ {H' : Hp}, (∀ b ∈ fp1, H' b = none) → ∀ b ∈ fp1, FpOk (X.blk s3 H3 scope ce fp) ([] ++ pinsAt fp s7.heap) H' b := fun hn b hb => ⟨hn b hb, (f11 b hb).2⟩
        have loop1 : codeAny (model X.prog X.w) X.A (.compLoop (.SetComp elt [⟨tg, iter, ifs, 0⟩, ⟨tg1, iter1, ifs1, 0⟩] scope pos) 1 (.ref it1) (.ref D) ce)
            (fun r s' => match r with
              | .ok _ => ∃ m, m < n ∧ ∃ i H', L2.Inv (X.blk s3 H3 scope ce fp) [] (wipe σ (own.map (·.2))) H' s' ∧ tn i s'.heap ∧ (∀ b ∈ fp, H' b = none) ∧ W i m H'
              | .error _ => False) s11 := by
          refine loopS_in (fun k s' => ∃ j H', L2.Inv (X.blk s3 H3 scope ce fp) ([] ++ pinsAt fp s7.heap) (wipe σ8 vs1) H' s' ∧ tn1 j s'.heap ∧ (∀ b ∈ fp1, H' b = none) ∧ W1 j k H') ?_ m1 ⟨0, H11, I11.weak (wipe_length _ _) (fun j v e => (wipe_some e).1), st11, fun b hb => (f11 b hb).1, w1⟩
          rintro k s12 ⟨j, H12, I12, st12, n12, w12⟩
          rcases turn1 j k H12 w12 with ⟨stop1, nx1⟩ | ⟨go1, Nx1, hNx1, step1⟩
          · refine thnF (T1.done (X.blk s3 H3 scope ce fp) rfl rfl rfl hc j _ s12 (wipe σ8 vs1) H12 (fun _ _ => False) I12 (stat1 n12) st12 stop1) fun r s13 ⟨hr, I13⟩ => ?_
            subst hr
            exact fin I13 (hl8.trans (wipe_length σ8 vs1).symm) hk9 nx1
          · refine thnF (T1.item (X.blk s3 H3 scope ce fp) rfl rfl rfl hc j _ s12 (wipe σ8 vs1) H12 (fun _ _ => False) I12 (stat1 n12) st12 go1) fun r s13 ⟨u1, hr, h13⟩ => ?_
            subst hr
            refine thnF h13 fun _ s14 ⟨x1, H14, I14, r14, y14, st14, n14⟩ => ?_
            have I14' := I14.pinned (stat1 n14) (T1.obj _ _ st14)
            refine thnF (pg1.run _ s14 (wipe σ8 vs1) H14 x1 u1 _ I14' r14 (step1 x1 H14 y14)) fun _ s15 ⟨σ15, H15, I15, hw15, q15⟩ => ?_
            refine thnF (pt1.run _ s15 σ15 H15 _ I15 q15) fun b1 s16 ⟨H16, I16, q16⟩ => ?_
            have fin1 : ∀ {s' : Shared} {H' : Hp}, L2.Inv (X.blk s3 H3 scope ce fp) (([] ++ pinsAt fp s7.heap) ++ pinsAt fp1 s14.heap) σ15 H' s' → Nx1 H' → ∃ m, m < k ∧ ∃ j H', L2.Inv (X.blk s3 H3 scope ce fp) ([] ++ pinsAt fp s7.heap) (wipe σ8 vs1) H' s' ∧ tn1 j s'.heap ∧ (∀ b ∈ fp1, H' b = none) ∧ W1 j m H' := fun {s' H'} I' nx => by
              obtain ⟨m', hm, w'⟩ := hNx1 H' nx
              have pin' : ∀ b ∈ fp1, ∀ o, s14.heap.get? b = some o → s'.heap.get? b = some o ∧ H' b = none := fun b hb o e =>
                let z := I'.pin (b, o) (List.mem_append_right _ (List.mem_append_right _ (mem_pinsAt hb e)))
                ⟨z.1, z.2.1⟩
              refine ⟨m', hm, j + 1, H', I'.unpinned.weak (by rw [← hw15, wipe_length]) (fun j v e => by rw [← hw15] at e; exact (wipe_some e).1), T1.keep _ _ _ st14 fun b hb o e => (pin' b hb o e).1, fun b hb => ?_, w'⟩
              obtain ⟨o, e, _⟩ := T1.obj _ _ st14 b hb
              exact (pin' b hb o e).2
            cases b1 with
            | false =>
              simp only [Bool.false_eq_true, if_false] at q16 ⊢
              exact fin1 I16 q16
            | true =>
              simp only [if_true] at q16 ⊢
              refine thnF (pe.run _ s16 σ15 H16 _ I16 q16) fun z s17 ⟨yv, H17, I17, r17, kk, S0, n0, ey, hD17, hz17, nx⟩ => ?_
              subst ey
              exact addI_ok (X := X.blk s3 H3 scope ce fp) I17 hD17 hz17 r17 fun s18 I18 => fin1 I18 nx
        exact startS1_ok loop1 (T1.self X.A 0 _ _ _ st11 loop1)
  exact PpSet.codeAny_compStart_set loop (T.self X.A 0 _ _ _ st4 loop)
theorem pe_sc2 {elt tg iter tg1 iter1 : Expr} {ifs ifs1 : List Expr} {scope : Scope} {own : List (Str × Nat)} {vs1 : List Nat} {pos : Pos} {wi wi1 : TI} {g g1 : TG} {tt tt1 : TT} {te : TE} (hc : X.calm = true) (hN : X.N.Nodup) (hi : PI X tg iter wi) (ok : BlkOk X.N X.env.scope scope own) (hv : ∀ i ∈ vs1, i ∈ own.map (·.2))
    (hg : ∀ (s : Shared) (H : Hp) (C : Addr) (cl : List (Str × Addr)) (fp : List Addr), PG (X.blk s H scope (compEnvC scope cl C X.env) fp) tg g) (ht : ∀ (s : Shared) (H : Hp) (C : Addr) (cl : List (Str × Addr)) (fp : List Addr), PTs (X.blk s H scope (compEnvC scope cl C X.env) fp) ifs tt)
    (hi1 : ∀ (s : Shared) (H : Hp) (C : Addr) (cl : List (Str × Addr)) (fp : List Addr), PI (X.blk s H scope (compEnvC scope cl C X.env) fp) tg1 iter1 wi1)
    (hg1 : ∀ (s : Shared) (H : Hp) (C : Addr) (cl : List (Str × Addr)) (fp : List Addr), PG (X.blk s H scope (compEnvC scope cl C X.env) fp) tg1 g1) (ht1 : ∀ (s : Shared) (H : Hp) (C : Addr) (cl : List (Str × Addr)) (fp : List Addr), PTs (X.blk s H scope (compEnvC scope cl C X.env) fp) ifs1 tt1)
    (he : ∀ (s : Shared) (H : Hp) (C : Addr) (cl : List (Str × Addr)) (fp : List Addr), PE (X.blk s H scope (compEnvC scope cl C X.env) fp) elt te) (hs : ∀ x, foldedSetIterable iter X.env x = pure x := by intro _; rfl) (hs1 : ∀ env x, foldedSetIterable iter1 env x = pure x := by intro _ _; rfl) :
    PE X (.SetComp elt [⟨tg, iter, ifs, 0⟩, ⟨tg1, iter1, ifs1, 0⟩] scope pos) (tSc2 X.w wi g tt wi1 g1 tt1 te (own.map (·.2)) vs1) := by
  refine ⟨fun pins s σ H Q I h => ?_⟩
  rw [PpSet.eval_SetComp]
  refine sc2_core hc hN I hi ok hv hg ht he hs hi1 hg1 ht1 hs1 h fun D C s' m H' I' q hn f => ⟨m, hn, fun h'' sb => ?_⟩
  obtain ⟨f0, f1, f2, f3, f4, f5⟩ := f
  exact ⟨.ref D, H', I'.turned (t' := s'.toks) (fun b o hb e => (sb.2 b hb).trans e) f0 f1 f3 f4 f5, rfl, q⟩
end
end DL

namespace DL
open PySem PySem.Spec PyProof.Rows L2
/-! sorted of a set of whole numbers, of any size below 4096 -/
section
variable {P : Program} {w : World} {A : Around} {E : Value → Shared → Prop} {s : Shared} {a : Addr}
theorem sorted_setA {S : Int → Bool} {n : Nat} {Q : Value → Shared → Prop} (R : SetR w s.heap a S n) (hh : A.handled = none)
    (hQ : ∀ s' p (out : Array Value) (c : Nat) (ns : List Int), (∀ b o, s.heap.get? b = some o → s'.heap.get? b = some o) → s'.gens = s.gens → s'.os = s.os → s.heap.objs.size ≤ p →
      s'.heap.get? p = some (seqObj "list" out c) → IntsAre out.toList ns → ns.Pairwise (· < ·) → (∀ k, k ∈ ns ↔ S k = true) → ns.length = n → Q (.ref p) s') :
    wpAny (model P w) A (call (.builtin "sorted") [.ref a]) Q E s := by
  obtain ⟨o, es, ep, t, ho, hex, hd, g, nd, hm, hb, hf, hn, hr, hl⟩ := R
  refine Calls.call_function_entry kind_sorted plain_sorted entry_sorted (args_sorted1 _) ?_
  unfold Builtin.«sorted»
  refine wpAny_bind (m := checkCount "sorted" 1 1 _) (wpAny_pure ?_)
  refine wpAny_bind (collect_set (A := A.in1) hh ⟨o, ho, hex.1, hd⟩ hf hb hr hl fun s1 vs k1 hz g1 o1 pm => ?_)
  have hvl : vs.length = n := by rw [pm.length_eq, List.length_map, Array.length_toList]; exact hn
  have hnb : n < 4096 := by rw [← hn]; exact hb
  have hI : IntsAre vs (vs.map Builtin.Re.reRawOf) := ints_of vs fun v hv => by
    obtain ⟨e, he, q⟩ := List.mem_map.mp (pm.mem_iff.mp hv)
    obtain ⟨k, tk, h1, _⟩ := g e he
    exact ⟨k, tk, by rw [← q]; exact h1⟩
  have pk : (vs.map Builtin.Re.reRawOf).Perm (es.toList.map keyOf) := by
    have q := pm.map Builtin.Re.reRawOf
    rw [List.map_map] at q
    exact q
  refine wpAny_bind (wpAny_newList ?_ (by rw [hvl, sizeLine_eq]; omega))
  have hoL : (s1.heap.push (seqObj "list" vs.toArray 0)).get? s1.heap.objs.size = some (seqObj "list" vs.toArray 0) := Heap.get?_push_size _ rfl
  refine wpAny_bind (wpAny_holding (wpAny_call_entry slot_list_sort ⟨_, hoL, rfl⟩ entry_list_sort (SrtO.list_sort_ord SrtO.swo_int hoL (by rw [hvl, sizeLine_eq]; omega) (fun h2 => SrtO.ints_sortable hI h2) fun out h1 h2 => ⟨_, rfl, ?_⟩) (args_list_sort _)))
  obtain ⟨a1, a2, a3⟩ := SrtO.ints_out hI h1 h2
  obtain ⟨c, hc⟩ := PyProof.Rows.sortedHeap_at (vs := vs) (out := out.toArray) hoL
  have pn : (out.map SrtO.iv).Perm (es.toList.map keyOf) := a2.trans pk
  refine wpAny_pure ⟨_, rfl, hQ _ s1.heap.objs.size out.toArray c (out.map SrtO.iv) (fun b u e => ?_) g1 o1 hz hc a1 (lt_of_le_nodup _ a3 (pn.nodup_iff.mpr nd)) (fun k => by rw [pn.mem_iff, ← hm k]) ?_⟩
  · have q := k1 b u e
    have hlt := Heap.lt_size q
    show (sortedHeap (s1.heap.push (seqObj "list" vs.toArray 0)) s1.heap.objs.size vs out.toArray).get? b = some u
    rw [PyProof.Rows.sortedHeap_old (Nat.ne_of_lt hlt) (by rw [size_push']; exact Nat.lt_succ_of_lt hlt)]
    exact Heap.get?_push_of_some _ q
  · rw [pn.length_eq, List.length_map, Array.length_toList]; exact hn
end
def rSoSet (w : World) : List V → Hp → VK → Prop := fun vs H Q => ∃ (a : Addr) (S : Int → Bool) (n : Nat), vs = [V.ref a] ∧ H a = some (SetO w a S n) ∧ n < 4096 ∧
  ∀ (ns : List Int) (p : Addr), ns.Pairwise (· < ·) → (∀ k : Int, k ∈ ns ↔ S k = true) → ns.length = n → H p = none → Q (.ref p) (upd H p (.lst (ns.map V.int)))
theorem cr_soSet {X : Cx} (hc : X.calm = true) : CallR X (.builtin "sorted") (rSoSet X.w) := by
  intro pins s σ H vs us Q I r h
  obtain ⟨a, S, n, rfl, ha, h64, q⟩ := h
  have R := setO_get I ha
  rw [Vals.ref1 r]
  refine sorted_setA R (I.ok.hd hc) fun s' p out c ns k g o hp hg hi hs hm hl => ?_
  have hlen : (ns.map V.int).length ≤ sizeLine := by rw [List.length_map, hl, sizeLine_eq]; omega
  have hn : H p = none := I.hok.fresh hp
  have J : L2.Inv X pins σ (upd H p (.lst (ns.map V.int))) { s with heap := s'.heap, gens := s'.gens, drawn := s'.drawn, toks := s'.toks } :=
    I.call (ch := []) (Un.laid k hp hn) (I.hok.laid k hp ⟨hlen, out.toList, c, vals_of_ints hi, hg⟩) (by rw [g]; exact I.bare) (fun _ z => nomatch z)
  have e : s' = { s with heap := s'.heap, gens := s'.gens, drawn := s'.drawn, toks := s'.toks } := by
    cases s'
    cases s
    cases o
    rfl
  rw [e]
  exact ⟨.ref p, _, J, rfl, q ns p hs hm hl hn⟩

/-! rising lists -/
def insS (k : Int) : List Int → List Int
  | [] => [k]
  | x :: xs => if k < x then k :: x :: xs else if k = x then x :: xs else x :: insS k xs
/-- its numbers, each once, rising -/
def sortD (ns : List Int) : List Int := ns.foldr insS []
theorem insS_mem {k j : Int} : ∀ {l : List Int}, j ∈ insS k l ↔ j = k ∨ j ∈ l
  | [] => by simp [insS]
  | x :: xs => by
    unfold insS
    split
    · simp
    · split
      · rename_i h; subst h; simp
      · rw [List.mem_cons, insS_mem, List.mem_cons]
        constructor
        · rintro (h | h | h) <;> simp [h]
        · rintro (h | h | h) <;> simp [h]
theorem insS_srt {k : Int} : ∀ {l : List Int}, l.Pairwise (· < ·) → (insS k l).Pairwise (· < ·)
  | [], _ => by simp [insS]
  | x :: xs, h => by
    unfold insS
    split
    · rename_i hk
      rw [List.pairwise_cons] at h ⊢
      refine ⟨fun y hy => ?_, List.pairwise_cons.mpr h⟩
      rcases List.mem_cons.mp hy with rfl | hy
      · exact hk
      · have := h.1 y hy; omega
    · split
      · exact h
      · rw [List.pairwise_cons] at h ⊢
        refine ⟨fun y hy => ?_, insS_srt h.2⟩
        rcases insS_mem.mp hy with rfl | hy
        · omega
        · exact h.1 y hy
theorem sortD_mem {j : Int} : ∀ {l : List Int}, j ∈ sortD l ↔ j ∈ l
  | [] => by simp [sortD]
  | x :: xs => by
    show j ∈ insS x (sortD xs) ↔ _
    rw [insS_mem, sortD_mem, List.mem_cons]
theorem sortD_srt : ∀ (l : List Int), (sortD l).Pairwise (· < ·)
  | [] => .nil
  | _ :: xs => insS_srt (sortD_srt xs)
theorem srt_uniq : ∀ {a b : List Int}, a.Pairwise (· < ·) → b.Pairwise (· < ·) → (∀ k, k ∈ a ↔ k ∈ b) → a = b
  | [], [], _, _, _ => rfl
  | [], y :: b, _, _, h => absurd ((h y).mpr (by simp)) (by simp)
  | x :: a, [], _, _, h => absurd ((h x).mp (by simp)) (by simp)
  | x :: a, y :: b, ha, hb, h => by
    rw [List.pairwise_cons] at ha hb
    have hxy : x = y := by
      have h1 := (h x).mp (by simp)
      have h2 := (h y).mpr (by simp)
      rcases List.mem_cons.mp h1 with h1 | h1
      · exact h1
      · rcases List.mem_cons.mp h2 with h2 | h2
        · exact h2.symm
        · have := ha.1 y h2
          have := hb.1 x h1
          omega
    subst hxy
    congr 1
    refine srt_uniq ha.2 hb.2 fun k => ?_
    constructor
    · intro hk
      have := (h k).mp (by simp [hk])
      rcases List.mem_cons.mp this with e | e
      · subst e; exact absurd (ha.1 k hk) (by omega)
      · exact e
    · intro hk
      have := (h k).mpr (by simp [hk])
      rcases List.mem_cons.mp this with e | e
      · subst e; exact absurd (hb.1 k hk) (by omega)
      · exact e
theorem intsOf_app : ∀ {a b : List D} {n : List Int}, intsOf (a ++ b) = some n → ∃ n1 n2, intsOf a = some n1 ∧ intsOf b = some n2 ∧ n = n1 ++ n2
  | [], b, n, h => ⟨[], n, rfl, h, rfl⟩
  | d :: a, b, n, h => by
    cases d with
    | int i =>
      simp only [List.cons_append, intsOf, Option.map_eq_some_iff] at h
      obtain ⟨m, h1, rfl⟩ := h
      obtain ⟨n1, n2, h2, h3, rfl⟩ := intsOf_app h1
      exact ⟨i :: n1, n2, by simp [intsOf, h2], h3, rfl⟩
    | _ => simp [intsOf] at h
def finS (ys : List D) (M : Sto) : Res D := match intsOf ys with
  | some ns => if ns.length < 4000 then .ok (.lst (il (sortD ns))) M else .stuck
  | none => .stuck
theorem finS_elim {K : PySem.W.Frag} {mg : Str → Option Value} {β : Type} {ys : List D} {M : Sto} {R : Hp → List Addr → D → β → Prop} {W : XK} {F : Hp} {ρ : List Addr} {H : Hp} {C : Hp → List Addr → Sto → Hp → D → β → Prop}
    (h : AftK K mg R W (finS ys M) F ρ H C) : ∃ ns, intsOf ys = some ns ∧ ns.length < 4000 := by
  unfold finS at h
  split at h
  · exact ⟨_, by assumption, (iff_elim h).1⟩
  · exact h.elim
def mSoS2 (it : MI) (g : MG) (vs : List Nat) (t : MT) (it1 : MI) (g1 : MG) (vs1 : List Nat) (t1 : MT) (e : ME) : ME := fun Γ M => (it Γ M).bind fun p M1 => (lcL2 g t it1 g1 vs1 t1 e p.2 (dwipe Γ vs) p.1 M1).bind fun ys M2 => finS ys M2
structure ScAt (w : World) (K : PySem.W.Frag) (mg : Str → Option Value) (F0 : Hp) (ρ0 : List Addr) (H0 : Hp) (p : Addr) (F : Hp) (ρ : List Addr) (M : Sto) (H : Hp) (ds : List DL.D) : Prop where
  f : Sub F0 F
  r : Pre ρ0 ρ
  fresh : ∀ a ∈ ρ, a ∈ ρ0 ∨ H0 a = none
  keep : ∀ a o, H0 a = some o → a ∉ ρ0 → H a = some o
  st : StOk K mg F ρ M H
  ff : ∀ a o, F a = some o → F0 a = some o ∨ H0 a = none ∨ a ∈ ρ0
  hD : ∃ (ns : List Int) (S : Int → Bool) (n : Nat), intsOf ds = some ns ∧ H p = some (SetO w p S n) ∧ (∀ j, S j = true ↔ j ∈ ns) ∧ n ≤ ns.length
  nF : F p = none
  nR : p ∉ ρ
section
variable {w : World} {K : PySem.W.Frag} {mg : Str → Option Value} {F0 F F1 : Hp} {ρ0 ρ ρ1 : List Addr} {M M1 : Sto} {H0 H H1 : Hp} {p : Addr} {ds : List D}
theorem ScAt.hDs (x : ScAt w K mg F0 ρ0 H0 p F ρ M H ds) : ∃ o, H p = some o := let ⟨_, _, _, _, h, _⟩ := x.hD; ⟨_, h⟩
theorem ScAt.start (st : StOk K mg F0 ρ0 M H0) (n : H0 p = none) : ScAt w K mg F0 ρ0 H0 p F0 ρ0 M (upd H0 p (SetO w p (fun _ => false) 0)) [] :=
  let ⟨st1, gr⟩ := st.other (o := SetO w p (fun _ => false) 0) n
  ⟨Sub.refl _, Pre.refl _, fun _ h => .inl h, gr.keep, st1, fun _ _ h => .inl h, ⟨[], _, 0, rfl, upd_same, by simp, Nat.le_refl _⟩, st.fnone n, st.notin n⟩
theorem ScAt.go (x : ScAt w K mg F0 ρ0 H0 p F ρ M H ds) (gr : Grow F ρ H F1 ρ1 H1) (st : StOk K mg F1 ρ1 M1 H1) : ScAt w K mg F0 ρ0 H0 p F1 ρ1 M1 H1 ds where
  f := x.f.trans gr.f
  r := x.r.trans gr.r
  fresh := fun a ha => by
    rcases gr.fresh a ha with h | h
    · exact x.fresh a h
    · by_cases hm : a ∈ ρ0
      · exact .inl hm
      · right
        cases q : H0 a with
        | none => rfl
        | some o => rw [x.keep a o q hm] at h; cases h
  keep := fun a o e n => gr.keep a o (x.keep a o e n) fun hm => by
    rcases x.fresh a hm with h | h
    · exact n h
    · rw [h] at e; cases e
  st := st
  ff := fun a o e => by
    rcases gr.ff a o e with h | h | h
    · exact x.ff a o h
    · by_cases hm : a ∈ ρ0
      · exact .inr (.inr hm)
      · right; left
        cases q : H0 a with
        | none => rfl
        | some u => rw [x.keep a u q hm] at h; cases h
    · rcases x.fresh a h with h | h
      · exact .inr (.inr h)
      · exact .inr (.inl h)
  hD := by
    obtain ⟨ns, S, n, h1, h2, h3, h4⟩ := x.hD
    exact ⟨ns, S, n, h1, gr.keep _ _ h2 x.nR, h3, h4⟩
  nF := by
    cases q : F1 p with
    | none => rfl
    | some o =>
      rcases gr.ff p o q with h | h | h
      · rw [x.nF] at h; cases h
      · obtain ⟨o', e'⟩ := x.hDs; rw [e'] at h; cases h
      · exact absurd h x.nR
  nR := fun hm => by
    rcases gr.fresh p hm with h | h
    · exact x.nR h
    · obtain ⟨o', e'⟩ := x.hDs; rw [e'] at h; cases h
theorem ScAt.push (x : ScAt w K mg F0 ρ0 H0 p F ρ M H ds) (n : H0 p = none) {c : Int} {ns : List Int} {S : Int → Bool} {m : Nat} (q1 : intsOf ds = some ns) (q2 : H p = some (SetO w p S m)) (q3 : ∀ j, S j = true ↔ j ∈ ns) (q4 : m ≤ ns.length) :
    ScAt w K mg F0 ρ0 H0 p F ρ M (upd H p (SetO w p (fun j => S j || decide (j = c)) (if S c = true then m else m + 1))) (ds ++ [.int c]) where
  f := x.f
  r := x.r
  fresh := x.fresh
  keep := fun a o e h => by rw [upd_ne (ne_of_none e n)]; exact x.keep a o e h
  st := x.st.other' x.nF x.nR
  ff := x.ff
  hD := by
    have happ : ∀ {ds : List DL.D} {ns : List Int}, intsOf ds = some ns → intsOf (ds ++ [.int c]) = some (ns ++ [c]) := by
      intro ds
      induction ds with
      | nil => intro ns h; cases h; rfl
      | cons d ds ih =>
        intro ns h
        cases d with
        | int i =>
          simp only [intsOf, Option.map_eq_some_iff] at h
          obtain ⟨m, h1, rfl⟩ := h
          simp [intsOf, ih h1]
        | _ => simp [intsOf] at h
    refine ⟨ns ++ [c], _, _, happ q1, upd_same, fun j => ?_, ?_⟩
    · simp [q3 j]
    · simp only [List.length_append, List.length_cons, List.length_nil]
      split <;> omega
  nF := x.nF
  nR := x.nR
theorem ScAt.fin {W : XK} {Q : VK} (x : ScAt w K mg F0 ρ0 H0 p F ρ M H ds) (h : AftK K mg (Rep K mg) W (finS ds M) F0 ρ0 H0 (fun _ _ _ H' _ v => Q v H')) : rSoSet w [.ref p] H Q := by
  obtain ⟨ns, S, n, h1, h2, h3, h4⟩ := x.hD
  obtain ⟨ns', w1, w2⟩ := finS_elim h
  rw [h1] at w1; cases w1
  unfold finS at h
  rw [h1] at h
  dsimp only at h
  have h := (iff_elim h).2
  refine ⟨p, S, n, rfl, h2, by omega, fun out q hs hm hl hq => ?_⟩
  have hout : out = sortD ns := srt_uniq hs (sortD_srt ns) fun k => by rw [hm, h3, sortD_mem]
  subst hout
  have reps : ∀ (F : Hp) (ns : List Int), Reps K mg F ρ (il ns) (ns.map V.int) := fun F ns => by
    induction ns with
    | nil => exact .nil
    | cons n ns ih => exact .cons (rep_int _) ih
  obtain ⟨st2, gr2⟩ := x.st.lay (o := .lst ((sortD ns).map V.int)) hq (by show ((sortD ns).map V.int).length ≤ sizeLine; rw [List.length_map, hl, sizeLine_eq]; omega)
  have g0 : Grow F0 ρ0 H0 F ρ H := ⟨x.f, x.r, x.fresh, x.keep, x.ff⟩
  exact h _ _ _ _ (g0.trans gr2) st2 (rep_lst upd_same (reps _ _))
end
theorem sc2_imp {w : World} {K : PySem.W.Frag} {mg : Str → Option Value} {W : WX} {mi mi1 : MI} {gm gm1 : MG} {vs sl vs1 sl1 : List Nat} {t t1 : MT} {e : ME} {σ : L2.St} {H : Hp} {Q : VK}
    (hs : ∀ i ∈ sl, i ∈ vs) (hs1 : ∀ i ∈ sl1, i ∈ vs1) (h : tD K mg W (mSoS2 mi gm vs t mi1 gm1 vs1 t1 e) σ H Q) :
    tSc2 w (tI K mg W mi) (tG K mg sl gm) (tDt K mg W0 t) (tI K mg W0 mi1) (tG K mg sl1 gm1) (tDt K mg W0 t1) (tD K mg W0 e) vs vs1 σ H (fun v H1 => rSoSet w [v] H1 Q) := by
  obtain ⟨F, ρ, Γ, M, g, st, h⟩ := h
  refine ⟨F, ρ, Γ, M, g, st, h.bind.imp fun F1 ρ1 M1 H1 p J gr st1 hJ h1 => ?_⟩
  obtain ⟨ds, chk⟩ := p
  intro D nD
  refine ⟨fun i m' H' => m' = ds.length - i ∧ i ≤ ds.length ∧ ∃ F' ρ' M' da, ScAt w K mg F1 ρ1 H1 D F' ρ' M' H' da ∧
      AftK K mg (Rep K mg) (WE W σ) ((lcL2 gm t mi1 gm1 vs1 t1 e chk (dwipe Γ vs) (ds.drop i) M').bind fun ys M2 => finS (da ++ ys) M2) F1 ρ1 H1 (fun _ _ _ H' _ v => Q v H'),
    ⟨_, rfl, Nat.zero_le _, F1, ρ1, M1, [], .start st1 nD, by simpa using h1⟩, ?_⟩
  rintro i _ H2 ⟨rfl, hi, F2, ρ2, M2, da, L, h2⟩
  by_cases hlt : i < ds.length
  · right
    have hd : ds.drop i = ds[i] :: ds.drop (i + 1) := List.drop_eq_getElem_cons hlt
    rw [hd] at h2
    unfold lcL2 at h2
    split at h2
    · rename_i hk
      obtain ⟨go, step⟩ := (hJ.2 F2 ρ2 M2 H2 i L.f L.r L.st hk).1 ds[i] (by simp [hlt])
      refine ⟨go, _, fun H' n => ⟨_, (by show ds.length - (i + 1) < ds.length - i; omega), n⟩, fun x H3 y => ?_⟩
      obtain ⟨F3, gr3, st3, r3⟩ := step x H3 y
      have L3 := L.go gr3 st3
      have g3 : GOk K mg F3 ρ2 (dwipe Γ vs) (wipe σ vs) := ((g.grow gr).mono L3.f L3.r).wipe vs
      refine ⟨F3, ρ2, dwipe Γ vs, M2, ds[i], g3, st3, r3, ?_⟩
      cases hg : gm ds[i] (dwipe Γ vs) M2 with
      | exc x M3 => rw [hg] at h2; exact h2.elim
      | stuck => rw [hg] at h2; exact h2.elim
      | ok Γ4 M4 =>
        rw [hg] at h2
        simp only [noX_ok, Res.bind_ok] at h2
        intro F4 ρ4 H4 σ4 gr4 st4 g4 o4
        have L4 := L3.go gr4 st4
        refine ⟨wipe_only o4 hs, F4, ρ4, Γ4, M4, g4, st4, ?_⟩
        cases ht : t Γ4 M4 with
        | exc x M3 => rw [ht] at h2; exact h2.elim
        | stuck => rw [ht] at h2; exact h2.elim
        | ok b M5 =>
          rw [ht] at h2
          simp only [noX_ok, Res.bind_ok] at h2
          intro F5 ρ5 H5 _ gr5 st5 _
          have L5 := L4.go gr5 st5
          cases b with
          | false =>
            simp only [Bool.false_eq_true, if_false] at h2 ⊢
            exact ⟨trivial, hlt, F5, ρ5, M5, da, L5, h2⟩
          | true =>
            simp only [if_true] at h2 ⊢
            refine ⟨F5, ρ5, Γ4, M5, g4.grow gr5, st5, ?_⟩
            cases hm1 : mi1 Γ4 M5 with
            | exc x M3 => rw [hm1] at h2; exact h2.elim
            | stuck => rw [hm1] at h2; exact h2.elim
            | ok p1 M6 =>
              rw [hm1] at h2
              simp only [noX_ok, Res.bind_ok] at h2
              obtain ⟨es, chk1⟩ := p1
              intro F6 ρ6 H6 J1 gr6 st6 hJ1
              have L6 := L5.go gr6 st6
              have g6 : GOk K mg F6 ρ6 Γ4 σ4 := (g4.grow gr5).grow gr6
              have assoc : ∀ (r : Res (List DL.D)) (da' : List DL.D), ((r.bind fun ys M4 => (lcL2 gm t mi1 gm1 vs1 t1 e chk (dwipe Γ vs) (ds.drop (i + 1)) M4).bind fun zs M5 => .ok (ys ++ zs) M5).bind fun ys M2 => finS (da' ++ ys) M2) =
                  r.bind fun ys M4 => (lcL2 gm t mi1 gm1 vs1 t1 e chk (dwipe Γ vs) (ds.drop (i + 1)) M4).bind fun zs M5 => finS (da' ++ ys ++ zs) M5 := fun r da' => by
                cases r with
                | ok ys M4 =>
                  simp only [Res.bind_ok]
                  cases lcL2 gm t mi1 gm1 vs1 t1 e chk (dwipe Γ vs) (ds.drop (i + 1)) M4 <;> simp
                | exc x M4 => rfl
                | stuck => rfl
              rw [assoc] at h2
              refine ⟨fun j k H' => k = es.length - j ∧ j ≤ es.length ∧ ∃ F' ρ' M' da, ScAt w K mg F1 ρ1 H1 D F' ρ' M' H' da ∧ Sub F6 F' ∧ Pre ρ6 ρ' ∧
                  AftK K mg (Rep K mg) (WE W σ) ((lcL gm1 t1 e chk1 (dwipe Γ4 vs1) (es.drop j) M').bind fun ys M4 => (lcL2 gm t mi1 gm1 vs1 t1 e chk (dwipe Γ vs) (ds.drop (i + 1)) M4).bind fun zs M5 => finS (da ++ ys ++ zs) M5) F1 ρ1 H1 (fun _ _ _ H' _ v => Q v H'),
                ⟨_, rfl, Nat.zero_le _, F6, ρ6, M6, da, L6, Sub.refl _, Pre.refl _, h2⟩, ?_⟩
              rintro j _ H7 ⟨rfl, hj, F7, ρ7, M7, da7, L7, s7, p7, h7⟩
              by_cases hjt : j < es.length
              · right
                have hd1 : es.drop j = es[j] :: es.drop (j + 1) := List.drop_eq_getElem_cons hjt
                rw [hd1] at h7
                unfold lcL at h7
                split at h7
                · rename_i hk1
                  obtain ⟨go1, step1⟩ := (hJ1.2 F7 ρ7 M7 H7 j s7 p7 L7.st hk1).1 es[j] (by simp [hjt])
                  refine ⟨go1, _, fun H' n => ⟨_, (by show es.length - (j + 1) < es.length - j; omega), n⟩, fun x8 H8 y8 => ?_⟩
                  obtain ⟨F8, gr8, st8, r8⟩ := step1 x8 H8 y8
                  have L8 := L7.go gr8 st8
                  have g8 : GOk K mg F8 ρ7 (dwipe Γ4 vs1) (wipe σ4 vs1) := ((g6.mono s7 p7).mono gr8.f gr8.r).wipe vs1
                  refine ⟨F8, ρ7, dwipe Γ4 vs1, M7, es[j], g8, st8, r8, ?_⟩
                  cases hg1 : gm1 es[j] (dwipe Γ4 vs1) M7 with
                  | exc x M3 => rw [hg1] at h7; exact h7.elim
                  | stuck => rw [hg1] at h7; exact h7.elim
                  | ok Γ9 M9 =>
                    rw [hg1] at h7
                    simp only [noX_ok, Res.bind_ok] at h7
                    intro F9 ρ9 H9 σ9 gr9 st9 g9 o9
                    have L9 := L8.go gr9 st9
                    refine ⟨wipe_only o9 hs1, F9, ρ9, Γ9, M9, g9, st9, ?_⟩
                    cases ht1 : t1 Γ9 M9 with
                    | exc x M3 => rw [ht1] at h7; exact h7.elim
                    | stuck => rw [ht1] at h7; exact h7.elim
                    | ok b1 M10 =>
                      rw [ht1] at h7
                      simp only [noX_ok, Res.bind_ok] at h7
                      intro F10 ρ10 H10 _ gr10 st10 _
                      have L10 := L9.go gr10 st10
                      have s10 := ((s7.trans gr8.f).trans gr9.f).trans gr10.f
                      have p10 := ((p7.trans gr8.r).trans gr9.r).trans gr10.r
                      cases b1 with
                      | false =>
                        simp only [Bool.false_eq_true, if_false] at h7 ⊢
                        exact ⟨trivial, hjt, F10, ρ10, M10, da7, L10, s10, p10, h7⟩
                      | true =>
                        simp only [if_true] at h7 ⊢
                        refine ⟨F10, ρ10, Γ9, M10, g9.grow gr10, st10, ?_⟩
                        cases he : e Γ9 M10 with
                        | exc x M3 => rw [he] at h7; exact h7.elim
                        | stuck => rw [he] at h7; exact h7.elim
                        | ok y M11 =>
                          rw [he] at h7
                          simp only [noX_ok, Res.bind_ok] at h7
                          intro F11 ρ11 H11 v gr11 st11 r11
                          have L11 := L10.go gr11 st11
                          have assoc2 : (((lcL gm1 t1 e chk1 (dwipe Γ4 vs1) (es.drop (j + 1)) M11).bind fun ys M4 => .ok (y :: ys) M4).bind fun ys M4 => (lcL2 gm t mi1 gm1 vs1 t1 e chk (dwipe Γ vs) (ds.drop (i + 1)) M4).bind fun zs M5 => finS (da7 ++ ys ++ zs) M5) =
                              (lcL gm1 t1 e chk1 (dwipe Γ4 vs1) (es.drop (j + 1)) M11).bind fun ys M4 => (lcL2 gm t mi1 gm1 vs1 t1 e chk (dwipe Γ vs) (ds.drop (i + 1)) M4).bind fun zs M5 => finS (da7 ++ [y] ++ ys ++ zs) M5 := by
                            cases lcL gm1 t1 e chk1 (dwipe Γ4 vs1) (es.drop (j + 1)) M11 with
                            | ok ys M12 => simp
                            | exc x M12 => rfl
                            | stuck => rfl
                          rw [assoc2] at h7
                          obtain ⟨ns7, S7, n7, q1, q2, q3, q4⟩ := L11.hD
                          obtain ⟨c, hy, hz⟩ : ∃ c, y = .int c ∧ ns7.length + 1 < 4000 := by
                            obtain ⟨ys, M12, _, h8⟩ := bind_ok_of (lcL_nx _ _) h7
                            obtain ⟨zs, M13, _, h9⟩ := bind_ok_of (lcL2_nx _ _) h8
                            obtain ⟨nsA, w1, w2⟩ := finS_elim h9
                            rw [List.append_assoc, List.append_assoc] at w1
                            obtain ⟨n1, n2, v1, v2, v3⟩ := intsOf_app w1
                            rw [q1] at v1; cases v1
                            obtain ⟨n3, n4, v4, v5, v6⟩ := intsOf_app v2
                            cases y with
                            | int c => exact ⟨c, rfl, by
                                simp [intsOf] at v4
                                rw [v3, v6, ← v4] at w2
                                simp at w2
                                omega⟩
                            | _ => simp [intsOf] at v4
                          subst hy
                          exact ⟨c, S7, n7, r11.int, q2, by show n7 + 1 < 4096; omega, trivial, hjt, F11, ρ11, M11, _, L11.push nD q1 q2 q3 q4, s10.trans gr11.f, p10.trans gr11.r, h7⟩
                · exact h7.elim
              · left
                have e1 : j = es.length := by omega
                subst e1
                rw [List.drop_length] at h7
                unfold lcL at h7
                split at h7
                · rename_i hk1
                  simp only [Res.bind_ok, List.append_nil] at h7
                  exact ⟨(hJ1.2 F7 ρ7 M7 H7 _ s7 p7 L7.st hk1).2 (Nat.le_refl _), trivial, hlt, F7, ρ7, M7, da7, L7, h7⟩
                · exact h7.elim
    · exact h2.elim
  · left
    have e1 : i = ds.length := by omega
    subst e1
    rw [List.drop_length] at h2
    unfold lcL2 at h2
    split at h2
    · rename_i hk
      simp only [Res.bind_ok, List.append_nil] at h2
      exact ⟨(hJ.2 F2 ρ2 M2 H2 _ L.f L.r L.st hk).2 (Nat.le_refl _), L.fin h2⟩
    · exact h2.elim
section
variable {X : Cx} {W : WX} {elt tg iter tg1 iter1 : Expr} {ifs ifs1 : List Expr} {scope : Scope} {own : List (Str × Nat)} {vs1 : List Nat} {p pos cpos : Pos} {mi mi1 : MI} {gm gm1 : MG} {t t1 : MT} {e : ME}
theorem se_soS2 (hG : Gl X "sorted") (hM : X.mg "sorted" = none) (hc : X.calm = true) (hN : X.N.Nodup) (hi : SI X W mi tg iter) (ok : BlkOk X.N X.env.scope scope own) (hv : ∀ i ∈ vs1, i ∈ own.map (·.2)) (hg : SG' X scope (own.map (·.2)) gm tg) (ht : ST' X scope t ifs) (hi1 : SI' X scope mi1 tg1 iter1) (hg1 : SG' X scope vs1 gm1 tg1) (ht1 : ST' X scope t1 ifs1) (he : SE' X scope e elt)
    (hs : ∀ x, foldedSetIterable iter X.env x = pure x := by intro _; rfl) (hs1 : ∀ env x, foldedSetIterable iter1 env x = pure x := by intro _ _; rfl)
    (hst : starEach [.SetComp elt [⟨tg, iter, ifs, 0⟩, ⟨tg1, iter1, ifs1, 0⟩] scope cpos] X.env = (false, eval (.SetComp elt [⟨tg, iter, ifs, 0⟩, ⟨tg1, iter1, ifs1, 0⟩] scope cpos) X.env) :: starEach [] X.env := by rfl) (hpl : (backTo pos (starEach [] X.env)).any (·.1) = false := by rfl) :
    SE X W (mSoS2 mi gm (own.map (·.2)) t mi1 gm1 vs1 t1 e) (.Call (.Name "sorted" p) [.SetComp elt [⟨tg, iter, ifs, 0⟩, ⟨tg1, iter1, ifs1, 0⟩] scope cpos] [] pos) :=
  (pe_callB (cr_soSet hc) hG hM (by decide +kernel) (pa_cons (pe_sc2 hc hN hi ok hv hg ht hi1 hg1 ht1 he hs hs1) pa_nil hst) (by decide) (by decide) hst hpl).imp fun σ H Q h => sc2_imp (fun _ h => h) (fun _ h => h) h
end
end DL

namespace DL
open PySem PySem.Spec PyProof.Rows L2
/-! repr of what stands alone -/
def rReprF : List V → Hp → VK → Prop := fun xs H Q => (∃ i, xs = [.int i] ∧ i.natAbs.log2 < 1920 ∧ Q (.str (toString i)) H) ∨ (xs = [.non] ∧ Q (.str "None") H) ∨ ∃ b : Bool, xs = [.bl b] ∧ Q (.str (if b then "True" else "False")) H
theorem call_reprF {X : Cx} : CallR X (.builtin "repr") rReprF := by
  intro pins s σ H xs us Q I r h
  rcases h with ⟨i, rfl, hz, q⟩ | ⟨rfl, q⟩ | ⟨b, rfl, q⟩
  · obtain ⟨u, rfl, t, rfl⟩ := vals1 r
    exact PySem.P.repr_of_int hz ⟨.str _, H, I.tok _, ⟨_, rfl⟩, q⟩
  · obtain ⟨u, rfl, rv⟩ := vals1 r
    obtain rfl : u = Value.none := rv
    exact PySem.P.repr_of_none ⟨.str _, H, I.tok _, ⟨_, rfl⟩, q⟩
  · obtain ⟨u, rfl, rv⟩ := vals1 r
    obtain rfl : u = Value.bool b := rv
    exact PySem.P.repr_of_bool ⟨.str _, H, I.tok _, ⟨_, rfl⟩, q⟩
def fReprF (ds : List D) (M : Sto) : Res D := match ds with
  | [.int i] => if i.natAbs.log2 < 1920 then .ok (.str (toString i)) M else .stuck
  | [.non] => .ok (.str "None") M
  | [.bl b] => .ok (.str (if b then "True" else "False")) M
  | _ => .stuck
theorem cs_reprF {K : PySem.W.Frag} {mg : Str → Option Value} : CallS K mg rReprF fReprF := by
  intro F ρ M H ds vs W Q st r h
  unfold fReprF at h
  split at h
  · obtain ⟨hz, h⟩ := iff_elim h
    obtain ⟨v, rfl, rv⟩ := reps1 r
    exact .inl ⟨_, by rw [rv.int], hz, AftK.ok h st (rep_str _)⟩
  · obtain ⟨v, rfl, rv⟩ := reps1 r
    exact .inr (.inl ⟨by rw [rv.non], AftK.ok h st (rep_str _)⟩)
  · obtain ⟨v, rfl, rv⟩ := reps1 r
    exact .inr (.inr ⟨_, by rw [rv.bl], AftK.ok h st (rep_str _)⟩)
  · exact h.elim
end DL

namespace DL
open PySem PySem.Spec PyProof.Rows L2
/-! dicts that may change -/
section
variable {K : PySem.W.Frag} {mg : Str → Option Value} {F F0 : Hp} {ρ ρ0 : List Addr} {M : Sto} {H H0 : Hp}
/-- a thing of a rule's own becomes one that may change -/
theorem StOk.adopt (st : StOk K mg F ρ M H) {p : Addr} {ho : HO} {o : MO} (nF : F p = none) (nR : p ∉ ρ) (z : MOk K mg F (ρ ++ [p]) (upd H p ho) p o) : StOk K mg F (ρ ++ [p]) (M ++ [o]) (upd H p ho) := by
  have st1 := st.other' (o := ho) nF nR
  refine ⟨st1.sub, st.szL, st.szT, by simp [st.len], ?_, fun a ha => ?_, fun m u e => ?_⟩
  · rw [List.nodup_append]
    exact ⟨st.nd, by simp, fun a ha b hb => by simp at hb; subst hb; exact fun q => nR (q ▸ ha)⟩
  · rcases List.mem_append.mp ha with ha | ha
    · exact st1.trk a ha
    · simp at ha; subst ha; rw [upd_same]; simp
  · by_cases hm : m < M.length
    · rw [List.getElem?_append_left hm] at e
      obtain ⟨a, h1, h2⟩ := st1.at_ m u e
      exact ⟨a, Pre.get ⟨[p], rfl⟩ h1, h2.ltail⟩
    · rw [List.getElem?_append_right (by omega)] at e
      have hm0 : m - M.length = 0 := by
        have := (List.getElem?_eq_some_iff.mp e).1
        simp at this; omega
      rw [hm0] at e
      simp at e; subst e
      refine ⟨p, ?_, z⟩
      rw [List.getElem?_append_right (by rw [st.len]; omega), show m - ρ.length = 0 by rw [st.len]; omega]
      rfl
theorem Grow.adopt (g : Grow F0 ρ0 H0 F ρ H) {p : Addr} {ho : HO} (n : H0 p = none) : Grow F0 ρ0 H0 F (ρ ++ [p]) (upd H p ho) where
  f := g.f
  r := g.r.trans ⟨[p], rfl⟩
  fresh := fun a ha => by
    rcases List.mem_append.mp ha with ha | ha
    · exact g.fresh a ha
    · simp at ha; subst ha; exact .inr n
  keep := fun a o e hn => by rw [upd_ne (ne_of_none e n)]; exact g.keep a o e hn
  ff := g.ff
end

/-! ### keys -/
def keyOf : D → Option L2.Key
  | .int i => some (.inl i)
  | .str x => some (.inr x)
  | _ => none
def keysOf : List D → Option (List L2.Key)
  | [] => some []
  | d :: ds => match keyOf d, keysOf ds with
    | some k, some ks => some (k :: ks)
    | _, _ => none
def keyD : L2.Key → D
  | .inl i => .int i
  | .inr x => .str x
section
variable {K : PySem.W.Frag} {mg : Str → Option Value} {F : Hp} {ρ : List Addr} {M : Sto} {H : Hp}
theorem keyOf_rep {d : D} {v : V} {k : L2.Key} (r : Rep K mg F ρ d v) (h : keyOf d = some k) : v = kV k := by
  cases d <;> first
    | (simp [keyOf] at h; done)
    | (simp only [keyOf, Option.some.injEq] at h; subst h; first | rw [r.int] | rw [r.str]) <;> rfl
theorem keysOf_rep : ∀ {ds : List D} {vs : List V} {ks : List L2.Key}, Reps K mg F ρ ds vs → keysOf ds = some ks → vs = ks.map kV
  | [], _, _, r, h => by rw [r.inv_nil]; simp [keysOf] at h; subst h; rfl
  | d :: ds, _, _, r, h => by
    obtain ⟨v, vs, rfl, a, b⟩ := r.inv_cons
    simp only [keysOf] at h
    split at h
    · rename_i k ks h1 h2
      simp at h; subst h
      rw [keyOf_rep a h1, keysOf_rep b h2]; rfl
    · cases h
end

/-! ### what a dict bears -/
section
variable {κ : Type} [DecidableEq κ]
def dGet (ks : List κ) (ds : List D) (k : κ) : Option D := ((ks.zip ds).find? fun p => decide (p.1 = k)).map (·.2)
/-- the values behind a store -/
def dPutV {α : Type} : List κ → List α → κ → α → List α
  | k' :: ks, d' :: ds, k, d => (if k' = k then d else d') :: dPutV ks ds k d
  | _, _, _, _ => []
def dPut (ks : List κ) (ds : List D) (k : κ) (d : D) : List κ × List D := if k ∈ ks then (ks, dPutV ks ds k d) else (ks ++ [k], ds ++ [d])
variable {K : PySem.W.Frag} {mg : Str → Option Value} {F : Hp} {ρ : List Addr}
theorem dGet_rep : ∀ {ks : List κ} {ds : List D} {vs : List V} {k : κ}, ks.length = ds.length → Reps K mg F ρ ds vs → (dGet ks ds k = none ∧ valV (ks.zip vs) k = none) ∨ ∃ d v, dGet ks ds k = some d ∧ valV (ks.zip vs) k = some v ∧ Rep K mg F ρ d v
  | [], _, _, k, _, _ => .inl ⟨rfl, rfl⟩
  | k' :: ks, [], _, k, h, _ => by simp at h
  | k' :: ks, d :: ds, _, k, h, r => by
    obtain ⟨v, vs, rfl, a, b⟩ := r.inv_cons
    by_cases e : k' = k
    · refine .inr ⟨d, v, ?_, ?_, a⟩
      · simp [dGet, List.find?_cons, e]
      · simp [valV, List.find?_cons, e]
    · have ih := dGet_rep (k := k) (by simpa using h) b
      have e1 : dGet (k' :: ks) (d :: ds) k = dGet ks ds k := by simp [dGet, List.find?_cons, e]
      have e2 : valV ((k' :: ks).zip (v :: vs)) k = valV (ks.zip vs) k := by simp [valV, List.find?_cons, e]
      rw [e1, e2]
      exact ih
theorem zip_any {α : Type} : ∀ {ks : List κ} {vs : List α} {k : κ}, ks.length = vs.length → ((ks.zip vs).any fun kv => decide (kv.1 = k)) = decide (k ∈ ks)
  | [], _, k, _ => by simp
  | k' :: ks, [], k, h => by simp at h
  | k' :: ks, v :: vs, k, h => by
    rw [List.zip_cons_cons, List.any_cons, zip_any (by simpa using h)]
    by_cases e : k' = k
    · subst e; simp
    · have : ¬ k = k' := fun q => e q.symm
      simp [e, this]
theorem zip_put {α : Type} : ∀ {ks : List κ} {vs : List α} {k : κ} {v : α}, ks.length = vs.length → (ks.zip vs).map (fun kv => if kv.1 = k then (kv.1, v) else kv) = ks.zip (dPutV ks vs k v)
  | [], _, k, v, _ => by simp
  | k' :: ks, [], k, v, h => by simp at h
  | k' :: ks, w :: vs, k, v, h => by
    rw [List.zip_cons_cons, List.map_cons, zip_put (by simpa using h)]
    simp only [dPutV, List.zip_cons_cons]
    by_cases e : k' = k <;> simp [e]
theorem dPutV_len {α : Type} : ∀ {ks : List κ} {vs : List α} {k : κ} {v : α}, ks.length = vs.length → (dPutV ks vs k v).length = ks.length
  | [], [], _, _, _ => rfl
  | [], _ :: _, _, _, h => by simp at h
  | k' :: ks, [], k, v, h => by simp at h
  | k' :: ks, w :: vs, k, v, h => by simp [dPutV, dPutV_len (ks := ks) (vs := vs) (by simpa using h)]
theorem dPutV_rep : ∀ {ks : List κ} {ds : List D} {vs : List V} {k : κ} {d : D} {v : V}, ks.length = ds.length → Reps K mg F ρ ds vs → Rep K mg F ρ d v → Reps K mg F ρ (dPutV ks ds k d) (dPutV ks vs k v)
  | [], _, _, _, _, _, _, r, _ => by
    cases ‹List D› with
    | nil => rw [r.inv_nil]; exact Reps.nil
    | cons => simp at *
  | k' :: ks, [], _, _, _, _, h, _, _ => by simp at h
  | k' :: ks, w :: ds, _, k, d, v, h, r, x => by
    obtain ⟨u, vs, rfl, a, b⟩ := r.inv_cons
    simp only [dPutV]
    refine .cons ?_ (dPutV_rep (by simpa using h) b x)
    split
    · exact x
    · exact a
theorem putK_zip {ks : List κ} {vs : List V} {k : κ} {v : V} (h : ks.length = vs.length) : putK (ks.zip vs) k v = if k ∈ ks then ks.zip (dPutV ks vs k v) else (ks ++ [k]).zip (vs ++ [v]) := by
  unfold putK
  rw [zip_any h, zip_put h]
  by_cases e : k ∈ ks
  · simp [e]
  · rw [if_neg (by simp [e]), if_neg e, List.zip_append h]
    rfl
end

/-! ### reading -/
/-- the dict that stands at d -/
inductive DView where
  | k (ks : List L2.Key) (ds : List D)
  | t (ks : List (List L2.Key)) (ds : List D)
def dictOf (M : Sto) : D → Option DView
  | .ref n => match M[n]? with
    | some (.dk ks ds) => some (.k ks ds)
    | some (.dt ks ds) => some (.t ks ds)
    | _ => none
  | _ => none
/-- what it bears at e: none where e is no key -/
def DView.get (w : DView) (e : D) : Option (Option D) := match w with
  | .k ks ds => (keyOf e).map fun k => dGet ks ds k
  | .t ks ds => match e with
    | .tup es => (keysOf es).map fun k => dGet ks ds k
    | _ => none
section
variable {K : PySem.W.Frag} {mg : Str → Option Value} {F : Hp} {ρ : List Addr} {M : Sto} {H : Hp}
theorem dictOf_at {d : D} {v : V} {w : DView} (st : StOk K mg F ρ M H) (r : Rep K mg F ρ d v) (h : dictOf M d = some w) : ∃ n a, d = .ref n ∧ v = .ref a ∧ ρ[n]? = some a ∧ F a = none ∧
    match w with
    | .k ks ds => M[n]? = some (.dk ks ds) ∧ ∃ vs, H a = some (.dK (ks.zip vs)) ∧ ks.length = ds.length ∧ Reps K mg F ρ ds vs ∧ ks.length ≤ sizeLine
    | .t ks ds => M[n]? = some (.dt ks ds) ∧ ∃ vs, H a = some (.dT (ks.zip vs)) ∧ ks.length = ds.length ∧ Reps K mg F ρ ds vs ∧ ks.length ≤ sizeLine := by
  cases d with
  | ref n =>
    obtain ⟨a, e, q⟩ := r.ref
    simp only [dictOf] at h
    split at h
    · rename_i ks ds hx
      simp at h; subst h
      obtain ⟨a', h1, h2⟩ := st.at_ n _ hx
      rw [q] at h1; cases h1
      exact ⟨n, a, rfl, e, q, h2.1, hx, h2.2⟩
    · rename_i ks ds hx
      simp at h; subst h
      obtain ⟨a', h1, h2⟩ := st.at_ n _ hx
      rw [q] at h1; cases h1
      exact ⟨n, a, rfl, e, q, h2.1, hx, h2.2⟩
    · cases h
  | _ => cases h
/-- a look into a dict -/
theorem look {d e : D} {v u : V} {w : DView} {o : Option D} (st : StOk K mg F ρ M H) (r : Rep K mg F ρ d v) (r' : Rep K mg F ρ e u) (h : dictOf M d = some w) (g : w.get e = some o) :
    ∃ a q, v = .ref a ∧ IsD H a ∧ DGet H a u q ∧ ((o = none ∧ q = none) ∨ ∃ d' v', o = some d' ∧ q = some v' ∧ Rep K mg F ρ d' v') := by
  obtain ⟨n, a, rfl, rfl, hr, hF, hw⟩ := dictOf_at st r h
  cases w with
  | k ks ds =>
    obtain ⟨hM, vs, hH, hl, rr, hz⟩ := hw
    simp only [DView.get, Option.map_eq_some_iff] at g
    obtain ⟨k, hk, rfl⟩ := g
    have hu := keyOf_rep r' hk
    subst hu
    refine ⟨a, _, rfl, .inl ⟨_, .inl hH⟩, DGet.k hH, ?_⟩
    rcases dGet_rep (k := k) hl rr with ⟨h1, h2⟩ | ⟨d', v', h1, h2, h3⟩
    · exact .inl ⟨h1, h2⟩
    · exact .inr ⟨d', v', h1, h2, h3⟩
  | t ks ds =>
    obtain ⟨hM, vs, hH, hl, rr, hz⟩ := hw
    simp only [DView.get] at g
    split at g
    · rename_i es
      simp only [Option.map_eq_some_iff] at g
      obtain ⟨k, hk, rfl⟩ := g
      obtain ⟨b, us, rfl, hb, rb⟩ := r'.tupF
      have hu := keysOf_rep rb hk
      subst hu
      refine ⟨a, _, rfl, .inr ⟨_, .inl hH⟩, DGet.t hH (st.sub _ _ hb), ?_⟩
      rcases dGet_rep (k := k) hl rr with ⟨h1, h2⟩ | ⟨d', v', h1, h2, h3⟩
      · exact .inl ⟨h1, h2⟩
      · exact .inr ⟨d', v', h1, h2, h3⟩
    · cases g
end
/-- d[e], which is there -/
def fDGet (d e : D) (M : Sto) : Res D := match dictOf M d with
  | some w => match w.get e with
    | some (some x) => .ok x M
    | _ => .stuck
  | none => .stuck
/-- d.get(e, x) -/
def fDGet2 (d e x : D) (M : Sto) : Res D := match dictOf M d with
  | some w => match w.get e with
    | some (some y) => .ok y M
    | some none => .ok x M
    | none => .stuck
  | none => .stuck
def fDIn (d e : D) (M : Sto) : Option Bool := match dictOf M d with
  | some w => (w.get e).map Option.isSome
  | none => none
/-- the store behind d[e] = x -/
def putD (M : Sto) (d e x : D) : Option Sto := match d with
  | .ref n => match M[n]? with
    | some (.dk ks ds) => match keyOf e with
      | some k => if ks.length < 16000000 then some (M.set n (.dk (dPut ks ds k x).1 (dPut ks ds k x).2)) else none
      | none => none
    | some (.dt ks ds) => match e with
      | .tup es => match keysOf es with
        | some k => if ks.length < 16000000 then some (M.set n (.dt (dPut ks ds k x).1 (dPut ks ds k x).2)) else none
        | none => none
      | _ => none
    | _ => none
  | _ => none
section
variable {K : PySem.W.Frag} {mg : Str → Option Value} {F : Hp} {ρ : List Addr} {M : Sto} {H : Hp}
theorem dPut_rep {κ : Type} [DecidableEq κ] {ks : List κ} {ds : List D} {vs : List V} {k : κ} {d : D} {v : V} (hl : ks.length = ds.length) (r : Reps K mg F ρ ds vs) (x : Rep K mg F ρ d v) :
    ∃ us, putK (ks.zip vs) k v = (dPut ks ds k d).1.zip us ∧ (dPut ks ds k d).1.length = (dPut ks ds k d).2.length ∧ Reps K mg F ρ (dPut ks ds k d).2 us ∧ (dPut ks ds k d).1.length ≤ ks.length + 1 := by
  have hv : ks.length = vs.length := by rw [r.len]; exact hl
  rw [putK_zip hv]
  unfold dPut
  by_cases e : k ∈ ks
  · rw [if_pos e, if_pos e]
    exact ⟨_, rfl, by simp [dPutV_len hl], dPutV_rep hl r x, by simp⟩
  · rw [if_neg e, if_neg e]
    exact ⟨_, rfl, by simp [hl], r.append (.cons x .nil), by simp⟩
theorem putD_ok {d e x : D} {v u y : V} {M' : Sto} (st : StOk K mg F ρ M H) (r : Rep K mg F ρ d v) (r' : Rep K mg F ρ e u) (rx : Rep K mg F ρ x y) (h : putD M d e x = some M') :
    ∃ a H', v = .ref a ∧ DPut H a u y H' ∧ StOk K mg F ρ M' H' ∧ Grow F ρ H F ρ H' := by
  unfold putD at h
  split at h
  · rename_i n
    split at h
    · rename_i ks ds hx
      split at h
      · rename_i k hk
        split at h
        · rename_i hz
          cases h
          obtain ⟨a, e, q⟩ := r.ref
          obtain ⟨a', h1, h2⟩ := st.at_ n _ hx
          rw [q] at h1; cases h1
          obtain ⟨hF, vs, hH, hl, rr, _⟩ := h2
          obtain ⟨us, e1, l1, r1, z1⟩ := dPut_rep (k := k) hl rr rx
          have hu := keyOf_rep r' hk
          subst hu
          have hvl : (ks.zip vs).length < sizeLine := by rw [List.length_zip, sizeLine_eq]; omega
          obtain ⟨st2, gr2⟩ := st.write (ho := .dK (putK (ks.zip vs) k y)) (o' := .dk (dPut ks ds k x).1 (dPut ks ds k x).2) q hF ⟨hF, us, by rw [upd_same, e1], l1, r1, by rw [sizeLine_eq]; omega⟩
          exact ⟨a, _, e, DPut.k hH hvl, st2, gr2⟩
        · cases h
      · cases h
    · rename_i ks ds hx
      split at h
      · rename_i es
        split at h
        · rename_i k hk
          split at h
          · rename_i hz
            cases h
            obtain ⟨a, e, q⟩ := r.ref
            obtain ⟨a', h1, h2⟩ := st.at_ n _ hx
            rw [q] at h1; cases h1
            obtain ⟨hF, vs, hH, hl, rr, _⟩ := h2
            obtain ⟨us, e1, l1, r1, z1⟩ := dPut_rep (k := k) hl rr rx
            obtain ⟨b, ws, rfl, hb, rb⟩ := r'.tupF
            have hu := keysOf_rep rb hk
            subst hu
            have hvl : (ks.zip vs).length < sizeLine := by rw [List.length_zip, sizeLine_eq]; omega
            obtain ⟨st2, gr2⟩ := st.write (ho := .dT (putK (ks.zip vs) k y)) (o' := .dt (dPut ks ds k x).1 (dPut ks ds k x).2) q hF ⟨hF, us, by rw [upd_same, e1], l1, r1, by rw [sizeLine_eq]; omega⟩
            exact ⟨a, _, e, DPut.t hH (st.sub _ _ hb) hvl, st2, gr2⟩
          · cases h
        · cases h
      · cases h
    · cases h
  · cases h
end
def mDGet (md me : ME) : ME := fun Γ M => (md Γ M).bind fun d M1 => (me Γ M1).bind fun e M2 => fDGet d e M2
def mDGet2 (md me mx : ME) : ME := fun Γ M => (md Γ M).bind fun d M1 => if (dictOf M1 d).isSome = true then (me Γ M1).bind fun e M2 => (mx Γ M2).bind fun x M3 => fDGet2 d e x M3 else .stuck
def mDGet1 (md me : ME) : ME := fun Γ M => (md Γ M).bind fun d M1 => if (dictOf M1 d).isSome = true then (me Γ M1).bind fun e M2 => fDGet2 d e .non M2 else .stuck
def mDIn (neg : Bool) (me md : ME) : MT := fun Γ M => (me Γ M).bind fun e M1 => (md Γ M1).bind fun d M2 => liftB ((fDIn d e M2).map fun b => if neg = true then !b else b) M2
def mDPut (md me mx : ME) : MS := fun Γ M => (mx Γ M).toS Γ fun x M1 => (md Γ M1).toS Γ fun d M2 => (me Γ M2).toS Γ fun e M3 => match putD M3 d e x with
  | some M4 => .nx Γ M4
  | none => .stuck
section
variable {X : Cx} {W : WX} {o i e f : Expr} {md me mx : ME} {pos p2 apos : Pos} {k : Nat}
theorem se_dget (hr : Room k X.A) (ho : SE X W md o) (hi : SE X W me i) (hs : NoSl i := by exact fun _ _ => rfl) : SE X W (mDGet md me) (.Subscript o i pos) :=
  (pe_dget (hu_of hr) ho hi hs).imp fun σ H Q ⟨F, ρ, Γ, M, g, st, h⟩ => ⟨F, ρ, Γ, M, g, st, h.bind.imp fun F1 ρ1 M1 H1 d v gr st1 rv h1 => ⟨F1, ρ1, Γ, M1, g.grow gr, st1,
    h1.bind.imp fun F2 ρ2 M2 H2 e u gr2 st2 ru h2 => by
      unfold fDGet at h2
      split at h2
      · rename_i w hw
        split at h2
        · rename_i x hx
          obtain ⟨a, q, ea, _, hg, hq⟩ := look st2 (rv.mono gr2.f gr2.r) ru hw hx
          rcases hq with ⟨hq, _⟩ | ⟨d', v', hq, e2, r2⟩
          · cases hq
          · cases hq
            subst e2
            exact ⟨a, v', ea, hg, AftK.ok h2 st2 r2⟩
        · exact h2.elim
      · exact h2.elim⟩⟩
end

/-! ### two readings of one text -/
section
variable {X : Cx} {W : WX}
theorem se_two {m m1 m2 : ME} {e : Expr} (h1 : SE X W m1 e) (h2 : SE X W m2 e) (h : ∀ Γ M, m Γ M = m1 Γ M ∨ m Γ M = m2 Γ M) : SE X W m e :=
  ⟨fun pins s σ H Q I ⟨F, ρ, Γ, M, g, st, q⟩ => by
    rcases h Γ M with e | e
    · exact h1.run pins s σ H Q I ⟨F, ρ, Γ, M, g, st, by rw [← e]; exact q⟩
    · exact h2.run pins s σ H Q I ⟨F, ρ, Γ, M, g, st, by rw [← e]; exact q⟩⟩
theorem st_two {m m1 m2 : MT} {e : Expr} (h1 : ST X W m1 e) (h2 : ST X W m2 e) (h : ∀ Γ M, m Γ M = m1 Γ M ∨ m Γ M = m2 Γ M) : ST X W m e :=
  ⟨fun pins s σ H Q I ⟨F, ρ, Γ, M, g, st, q⟩ => by
    rcases h Γ M with e | e
    · exact h1.run pins s σ H Q I ⟨F, ρ, Γ, M, g, st, by rw [← e]; exact q⟩
    · exact h2.run pins s σ H Q I ⟨F, ρ, Γ, M, g, st, by rw [← e]; exact q⟩⟩
theorem ss_two {m m1 m2 : MS} {e : Stmt} (h1 : SS X W m1 e) (h2 : SS X W m2 e) (h : ∀ Γ M, m Γ M = m1 Γ M ∨ m Γ M = m2 Γ M) : SS X W m e :=
  ⟨fun pins s σ H Q I ⟨F, ρ, Γ, M, g, st, q⟩ => by
    rcases h Γ M with e | e
    · exact h1.run pins s σ H Q I ⟨F, ρ, Γ, M, g, st, by rw [← e]; exact q⟩
    · exact h2.run pins s σ H Q I ⟨F, ρ, Γ, M, g, st, by rw [← e]; exact q⟩⟩
end
def fIxA (d e : D) (M : Sto) : Res D := if (dictOf M d).isSome = true then fDGet d e M else fIx d e M
theorem bin_or {f g h : D → D → Sto → Res D} (ma mb : ME) (e : ∀ d x M, f d x M = g d x M ∨ f d x M = h d x M) (Γ : DEnv) (M : Sto) : mBin f ma mb Γ M = mBin g ma mb Γ M ∨ mBin f ma mb Γ M = mBin h ma mb Γ M := by
  unfold mBin
  cases ma Γ M with
  | ok d M1 =>
    simp only [Res.bind_ok]
    cases mb Γ M1 with
    | ok x M2 => simp only [Res.bind_ok]; exact e d x M2
    | exc x M2 => exact .inl rfl
    | stuck => exact .inl rfl
  | exc x M1 => exact .inl rfl
  | stuck => exact .inl rfl
section
variable {X : Cx} {W : WX} {a b o i e f value : Expr} {ma mb md me mx mv : ME} {pos p2 apos cpos tpos : Pos} {k : Nat}
theorem se_ixA (hr : Room k X.A) (ha : SE X W ma a) (hb : SE X W mb b) (hs : PlainIx b) (hs2 : NoSl b := by exact fun _ _ => rfl) : SE X W (mBin fIxA ma mb) (.Subscript a b pos) :=
  se_two (m1 := mDGet ma mb) (m2 := mBin fIx ma mb) (se_dget hr ha hb hs2) (se_ix ha hb hs) fun Γ M => by
    have : mDGet ma mb = mBin fDGet ma mb := rfl
    rw [this]
    exact bin_or ma mb (fun d x M => by
      unfold fIxA
      split
      · exact .inl rfl
      · exact .inr rfl) Γ M
theorem opb_din {K : PySem.W.Frag} {mg : Str → Option Value} : OpB K mg (fun x y H Q => ∃ a o, y = .ref a ∧ DGet H a x o ∧ Q (.bl o.isSome) H) (fun d e M => fDIn e d M) := by
  intro F ρ M H d e v u b Q st r r' h q
  dsimp only [fDIn] at h
  split at h
  · rename_i w hw
    simp only [Option.map_eq_some_iff] at h
    obtain ⟨o, ho, rfl⟩ := h
    obtain ⟨a, q', ea, _, hg, hq⟩ := look st r' r hw ho
    refine ⟨a, q', ea, hg, ?_⟩
    rcases hq with ⟨rfl, rfl⟩ | ⟨d', v', rfl, rfl, _⟩ <;> exact q
  · cases h
theorem op_din (hu : X.A.units + 1 < cLine) : OpR X (compareOp .In) (fun x y H Q => ∃ a o, y = .ref a ∧ DGet H a x o ∧ Q (.bl o.isSome) H) := by
  intro pins s σ H x y v u Q I rx ry h
  obtain ⟨a, o, rfl, hg, q⟩ := h
  obtain rfl : u = Value.ref a := ry
  exact d_in hu I hg rx fun s1 I1 => ⟨.bl o.isSome, H, I1, rfl, q⟩
theorem op_dnotin (hu : X.A.units + 1 < cLine) : OpR X (compareOp .NotIn) (fun x y H Q => ∃ a o, y = .ref a ∧ DGet H a x o ∧ Q (.bl (!o.isSome)) H) := by
  intro pins s σ H x y v u Q I rx ry h
  obtain ⟨a, o, rfl, hg, q⟩ := h
  obtain rfl : u = Value.ref a := ry
  exact d_notIn hu I hg rx fun s1 I1 => ⟨.bl (!o.isSome), H, I1, rfl, q⟩
end
def fInA (d e : D) (M : Sto) : Option Bool := if (dictOf M e).isSome = true then fDIn e d M else fIn d e M
def fNotInA (d e : D) (M : Sto) : Option Bool := (fInA d e M).map (!·)
theorem opb_inA {K : PySem.W.Frag} {mg : Str → Option Value} : OpB K mg (fun x y H Q => rIn K false x y H Q ∨ ∃ a o, y = .ref a ∧ DGet H a x o ∧ Q (.bl o.isSome) H) fInA := by
  intro F ρ M H d e v u b Q st r r' h q
  unfold fInA at h
  split at h
  · exact .inr (opb_din F ρ M H d e v u b Q st r r' h q)
  · exact .inl (opb_in F ρ M H d e v u b Q st r r' h q)
theorem opb_notinA {K : PySem.W.Frag} {mg : Str → Option Value} : OpB K mg (fun x y H Q => rIn K true x y H Q ∨ ∃ a o, y = .ref a ∧ DGet H a x o ∧ Q (.bl (!o.isSome)) H) fNotInA := by
  intro F ρ M H d e v u b Q st r r' h q
  simp only [fNotInA, Option.map_eq_some_iff] at h
  obtain ⟨c, h, rfl⟩ := h
  unfold fInA at h
  split at h
  · refine .inr ?_
    obtain ⟨a, o, h1, h2, h3⟩ := opb_din F ρ M H d e v u c (fun x H' => x = .bl c ∧ H' = H) st r r' h ⟨rfl, rfl⟩
    refine ⟨a, o, h1, h2, ?_⟩
    have : o.isSome = c := by
      have := h3.1
      injection this
    rw [this]; exact q
  · exact .inl (opb_notin F ρ M H d e v u _ Q st r r' (by unfold fNotIn; rw [h]; rfl) q)
section
variable {X : Cx} {W : WX} {a b o i e f value : Expr} {ma mb md me mx mv : ME} {pos p2 apos cpos tpos : Pos} {k : Nat}
theorem op_inA (hr : Room k X.A) : OpR X (compareOp .In) (fun x y H Q => rIn X.K false x y H Q ∨ ∃ a o, y = .ref a ∧ DGet H a x o ∧ Q (.bl o.isSome) H) := op_in_seq.or (op_din (hu_of hr))
theorem op_notinA (hr : Room k X.A) : OpR X (compareOp .NotIn) (fun x y H Q => rIn X.K true x y H Q ∨ ∃ a o, y = .ref a ∧ DGet H a x o ∧ Q (.bl (!o.isSome)) H) := op_notIn_seq.or (op_dnotin (hu_of hr))
/-! ### get, store, display -/
theorem se_dget2 (hr : Room k X.A) (ho : SE X W md o) (he : SE X W me e) (hf : SE X W mx f) (m : M2 X o "get" apos e f cpos := by exact ⟨rfl, rfl, rfl, rfl⟩) : SE X W (mDGet2 md me mx) (.Call (.Attribute o "get" apos) [e, f] [] cpos) :=
  (pe_dget2 (hu_of hr) ho he hf m).imp fun σ H Q ⟨F, ρ, Γ, M, g, st, h⟩ => ⟨F, ρ, Γ, M, g, st, h.bind.imp fun F1 ρ1 M1 H1 d v gr st1 rv h1 => by
    obtain ⟨hd, h1⟩ := iff_elim h1
    obtain ⟨w, hw⟩ := Option.isSome_iff_exists.mp hd
    obtain ⟨n, a, rfl, rfl, hr2, hF, hv⟩ := dictOf_at st1 rv hw
    refine ⟨a, rfl, ?_, F1, ρ1, Γ, M1, g.grow gr, st1, h1.bind.imp fun F2 ρ2 M2 H2 e u gr2 st2 ru h2 => ⟨F2, ρ2, Γ, M2, (g.grow gr).grow gr2, st2, h2.bind.imp fun F3 ρ3 M3 H3 x z gr3 st3 rz h3 => ?_⟩⟩
    · cases w with
      | k ks ds => obtain ⟨_, vs, hH, _⟩ := hv; exact .inl ⟨_, .inl hH⟩
      | t ks ds => obtain ⟨_, vs, hH, _⟩ := hv; exact .inr ⟨_, .inl hH⟩
    · unfold fDGet2 at h3
      split at h3
      · rename_i w3 hw3
        split at h3
        · rename_i y hy
          obtain ⟨a3, q, ea, _, hg, hq⟩ := look st3 ((rv.mono gr2.f gr2.r).mono gr3.f gr3.r) (ru.mono gr3.f gr3.r) hw3 hy
          cases ea
          rcases hq with ⟨hq, _⟩ | ⟨d', v', hq, e2, r2⟩
          · cases hq
          · cases hq
            subst e2
            exact ⟨_, hg, AftK.ok h3 st3 r2⟩
        · rename_i hy
          obtain ⟨a3, q, ea, _, hg, hq⟩ := look st3 ((rv.mono gr2.f gr2.r).mono gr3.f gr3.r) (ru.mono gr3.f gr3.r) hw3 hy
          cases ea
          rcases hq with ⟨_, e2⟩ | ⟨d', v', hq, _, _⟩
          · subst e2
            exact ⟨_, hg, AftK.ok h3 st3 rz⟩
          · cases hq
        · exact h3.elim
      · exact h3.elim⟩
theorem se_dget1 (hr : Room k X.A) (ho : SE X W md o) (he : SE X W me e) (m : M1 X o "get" apos e cpos := by exact ⟨rfl, rfl, rfl, rfl⟩) : SE X W (mDGet1 md me) (.Call (.Attribute o "get" apos) [e] [] cpos) :=
  (pe_dget1 (hu_of hr) ho he m).imp fun σ H Q ⟨F, ρ, Γ, M, g, st, h⟩ => ⟨F, ρ, Γ, M, g, st, h.bind.imp fun F1 ρ1 M1 H1 d v gr st1 rv h1 => by
    obtain ⟨hd, h1⟩ := iff_elim h1
    obtain ⟨w, hw⟩ := Option.isSome_iff_exists.mp hd
    obtain ⟨n, a, rfl, rfl, hr2, hF, hv⟩ := dictOf_at st1 rv hw
    refine ⟨a, rfl, ?_, F1, ρ1, Γ, M1, g.grow gr, st1, h1.bind.imp fun F3 ρ3 M3 H3 e u gr3 st3 ru h3 => ?_⟩
    · cases w with
      | k ks ds => obtain ⟨_, vs, hH, _⟩ := hv; exact .inl ⟨_, .inl hH⟩
      | t ks ds => obtain ⟨_, vs, hH, _⟩ := hv; exact .inr ⟨_, .inl hH⟩
    · unfold fDGet2 at h3
      split at h3
      · rename_i w3 hw3
        split at h3
        · rename_i y hy
          obtain ⟨a3, q, ea, _, hg, hq⟩ := look st3 (rv.mono gr3.f gr3.r) ru hw3 hy
          cases ea
          rcases hq with ⟨hq, _⟩ | ⟨d', v', hq, e2, r2⟩
          · cases hq
          · cases hq
            subst e2
            exact ⟨_, hg, AftK.ok h3 st3 r2⟩
        · rename_i hy
          obtain ⟨a3, q, ea, _, hg, hq⟩ := look st3 (rv.mono gr3.f gr3.r) ru hw3 hy
          cases ea
          rcases hq with ⟨_, e2⟩ | ⟨d', v', hq, _, _⟩
          · subst e2
            exact ⟨_, hg, AftK.ok h3 st3 rep_non⟩
          · cases hq
        · exact h3.elim
      · exact h3.elim⟩
theorem ss_dput (hr : Room k X.A) (ho : SE X W md o) (hi : SE X W me i) (hv : SE X W mx value) (hs : swapsWith value (some (.Subscript o i tpos)) pos.line X.env = pure false := by rfl) : SS X W (mDPut md me mx) (.Assign [.Subscript o i tpos] value pos) :=
  (ps_dput (hu_of hr) ho hi hv hs).imp fun D σ H ⟨F, ρ, Γ, M, g, st, h⟩ => ⟨F, ρ, Γ, M, g, st, (AftS.bind h g rfl).imp fun F1 ρ1 M1 H1 x y gr st1 rx h1 => ⟨F1, ρ1, Γ, M1, g.grow gr, st1,
    (AftS.bind h1 (g.grow gr) rfl).imp fun F2 ρ2 M2 H2 d v gr2 st2 rv h2 => ⟨F2, ρ2, Γ, M2, (g.grow gr).grow gr2, st2, (AftS.bind h2 ((g.grow gr).grow gr2) rfl).imp fun F3 ρ3 M3 H3 e u gr3 st3 ru h3 => by
      split at h3
      · rename_i M4 hM
        obtain ⟨a, H4, ea, hp, st4, gr4⟩ := putD_ok st3 (rv.mono gr3.f gr3.r) ru ((rx.mono gr2.f gr2.r).mono gr3.f gr3.r) hM
        exact ⟨a, H4, ea, hp, h3 _ _ _ _ gr4 st4 ((((g.grow gr).grow gr2).grow gr3).grow gr4) rfl⟩
      · exact h3.elim⟩⟩⟩
end
end DL

namespace DL
open PySem PySem.Spec PyProof.Rows L2
/-! ### {k: v, ..} -/
def mPairs : List (ME × ME) → DEnv → Sto → Res (List (D × D))
  | [], _, M => .ok [] M
  | m :: ms, Γ, M => (m.1 Γ M).bind fun d M1 => (m.2 Γ M1).bind fun e M2 => (mPairs ms Γ M2).bind fun ps M3 => .ok ((d, e) :: ps) M3
def mDict (ms : List (ME × ME)) : ME := fun Γ M => (mPairs ms Γ M).bind fun ps M1 => match keysOf (ps.map (·.1)) with
  | some ks => if ks.Nodup ∧ ks.length ≤ 15 then .ok (.ref M1.length) (M1 ++ [.dk ks (ps.map (·.2))]) else .stuck
  | none => .stuck
abbrev PReps (K : PySem.W.Frag) (mg : Str → Option Value) (F : Hp) (ρ : List Addr) : List (D × D) → List (V × V) → Prop := Paired fun p q => Rep K mg F ρ p.1 q.1 ∧ Rep K mg F ρ p.2 q.2
section
variable {K : PySem.W.Frag} {mg : Str → Option Value} {W : WX}
theorem pairs_imp : ∀ (ms : List (ME × ME)) {σ : L2.St} {H : Hp} {Qp : List (V × V) → Hp → Prop} {F : Hp} {ρ : List Addr} {Γ : DEnv} {M : Sto}, GOk K mg F ρ Γ σ → StOk K mg F ρ M H →
    AftK K mg (PReps K mg) (WE W σ) (mPairs ms Γ M) F ρ H (fun _ _ _ H' _ vs => Qp vs H') → tPairs (ms.map fun m => (tD K mg W m.1, tD K mg W m.2)) σ H Qp
  | [], σ, H, Qp, F, ρ, Γ, M, g, st, h => AftK.ok h st .nil
  | m :: ms, σ, H, Qp, F, ρ, Γ, M, g, st, h => by
    refine ⟨F, ρ, Γ, M, g, st, h.bind.imp fun F1 ρ1 M1 H1 d v gr st1 rv h1 => ⟨F1, ρ1, Γ, M1, g.grow gr, st1, h1.bind.imp fun F2 ρ2 M2 H2 e u gr2 st2 ru h2 => ?_⟩⟩
    exact pairs_imp ms ((g.grow gr).grow gr2) st2 (h2.bind.imp fun F3 ρ3 M3 H3 ps vs gr3 st3 rp h3 => AftK.ok h3 st3 (.cons ⟨(rv.mono gr2.f gr2.r).mono gr3.f gr3.r, ru.mono gr3.f gr3.r⟩ rp))
theorem preps_fst : ∀ {F : Hp} {ρ : List Addr} {ps : List (D × D)} {vs : List (V × V)}, PReps K mg F ρ ps vs → Reps K mg F ρ (ps.map (·.1)) (vs.map (·.1)) ∧ Reps K mg F ρ (ps.map (·.2)) (vs.map (·.2))
  | _, _, _, _, .nil => ⟨.nil, .nil⟩
  | _, _, _, _, .cons r rs => ⟨.cons r.1 (preps_fst rs).1, .cons r.2 (preps_fst rs).2⟩
theorem merge_new : ∀ (more acc : List (L2.Key × V)), ((acc ++ more).map (·.1)).Nodup → mergeK acc more = acc ++ more
  | [], acc, _ => by simp [mergeK]
  | p :: more, acc, h => by
    have hn : valV acc p.1 = none := by
      have : ¬ (valV acc p.1).isSome = true := fun q => by
        rw [← valV_any] at q
        obtain ⟨x, hx, he⟩ := List.any_eq_true.mp q
        have he : x.1 = p.1 := by simpa using he
        rw [List.map_append, List.nodup_append] at h
        exact h.2.2 x.1 (List.mem_map_of_mem hx) p.1 (by simp) he
      cases e : valV acc p.1 with
      | none => rfl
      | some v => rw [e] at this; exact absurd rfl this
    have h1 : mergeK acc (p :: more) = mergeK (putK acc p.1 p.2) more := rfl
    rw [h1, putK_new p.2 hn, merge_new more (acc ++ [(p.1, p.2)]) (by simpa using h)]
    simp
end
section
variable {X : Cx} {W : WX} {pos : Pos} {keys : List (Option Expr)} {values : List Expr} {ms : List (ME × ME)}
abbrev SPs (X : Cx) (W : WX) (pos : Pos) (ms : List (ME × ME)) (keys : List (Option Expr)) (values : List Expr) : Prop := PPs X pos keys values (ms.map fun m => (tD X.K X.mg W m.1, tD X.K X.mg W m.2))
theorem sps_nil : SPs X W pos [] [] [] := pps_nil
theorem sps_cons {k v : Expr} {mk mv : ME} (hk : SE X W mk k) (hv : SE X W mv v) (h : SPs X W pos ms keys values) : SPs X W pos ((mk, mv) :: ms) (some k :: keys) (v :: values) := pps_cons hk hv h
theorem zip_keys {ks : List L2.Key} {vs : List V} (h : ks.length = vs.length) : (ks.zip vs).map (·.1) = ks := List.map_fst_zip (by omega)
theorem keys_back : ∀ {vs : List (V × V)} {ks : List L2.Key}, vs.map (·.1) = ks.map kV → vs = (ks.zip (vs.map (·.2))).map fun kv => (kV kv.1, kv.2)
  | [], [], _ => rfl
  | [], _ :: _, h => by simp at h
  | _ :: _, [], h => by simp at h
  | (a, b) :: vs, k :: ks, h => by
    simp only [List.map_cons, List.cons.injEq] at h
    rw [List.map_cons, List.zip_cons_cons, List.map_cons, ← keys_back h.2, h.1]
theorem se_dict (h : SPs X W pos ms keys values) (hall : keys.all (·.isSome) = true := by rfl) (hl : keys.length = values.length := by rfl) (h0 : keys ≠ [] := by exact List.cons_ne_nil _ _) (h15 : keys.length ≤ 15 := by decide) : SE X W (mDict ms) (.Dict keys values pos) :=
  (pe_disp h hall hl h0 h15).imp fun σ H Q ⟨F, ρ, Γ, M, g, st, h⟩ => fun p hp => by
    obtain ⟨st1, gr1⟩ := st.other (o := .dK []) hp
    refine pairs_imp ms (g.grow gr1) st1 ?_
    unfold mDict at h
    cases hm : mPairs ms Γ M with
    | stuck => rw [hm] at h; exact h.elim
    | exc x M1 => rw [hm] at h; exact AftK.grow (α := D) (β := V) (R := Rep X.K X.mg) (C := fun _ _ _ H' _ v => Q v H') h gr1
    | ok ps M1 =>
      rw [hm] at h
      simp only [Res.bind_ok] at h
      intro F1 ρ1 H1 vs gr st2 rp
      split at h
      · rename_i ks hk
        obtain ⟨⟨hnd, h15⟩, h⟩ := iff_elim h
        obtain ⟨r1, r2⟩ := preps_fst rp
        have e1 := keysOf_rep r1 hk
        have hp1 : H1 p = some (.dK []) := gr.keep p _ upd_same (st.notin hp)
        have hl1 : ks.length = (vs.map (·.2)).length := by
          have := congrArg List.length e1
          simpa using this.symm
        have hps : ps.length = ks.length := by
          have := r2.len
          rw [List.length_map, List.length_map] at this
          rw [hl1, List.length_map, this]
        have nF : F1 p = none := by
          cases q : F1 p with
          | none => rfl
          | some o =>
            rcases gr.ff p o q with h3 | h3 | h3
            · rw [st.fnone hp] at h3; cases h3
            · rw [upd_same] at h3; cases h3
            · exact absurd h3 (st.notin hp)
        have nR : p ∉ ρ1 := fun hm2 => by
          rcases gr.fresh p hm2 with h3 | h3
          · exact st.notin hp h3
          · rw [upd_same] at h3; cases h3
        refine ⟨hp1, ks.zip (vs.map (·.2)), ?_, by rw [List.length_zip]; omega, ?_⟩
        · exact keys_back e1
        · rw [merge_new _ _ (by rw [List.nil_append, zip_keys hl1]; exact hnd), List.nil_append]
          have gr2 := (gr1.trans gr).adopt (ho := .dK (ks.zip (vs.map (·.2)))) hp
          have st3 := st2.adopt (o := .dk ks (ps.map (·.2))) (ho := .dK (ks.zip (vs.map (·.2)))) nF nR ⟨nF, vs.map (·.2), upd_same, by rw [List.length_map]; exact hps.symm, r2.mono (Sub.refl _) ⟨[p], rfl⟩, by rw [sizeLine_eq]; omega⟩
          exact h _ _ _ _ gr2 st3 (rep_ref (by rw [← st2.len, List.getElem?_append_right (Nat.le_refl _), Nat.sub_self]; rfl))
      · exact h.elim
end
/-! ### o[i] = v: a list's, a dict's -/
def mSetA (mo mi mv : ME) : MS := fun Γ M => (mv Γ M).toS Γ fun d M1 => (mo Γ M1).toS Γ fun o M2 => (mi Γ M2).toS Γ fun i M3 => if (dictOf M3 o).isSome = true then (match putD M3 o i d with
  | some M4 => .nx Γ M4
  | none => .stuck) else match o, i with
  | .ref n, .int k => match M3[n]? with
    | some (.lst ds) => match ixN ds.length k with
      | some j => .nx Γ (M3.set n (.lst (ds.set j d)))
      | none => .stuck
    | _ => .stuck
  | _, _ => .stuck
section
variable {X : Cx} {W : WX} {o i value : Expr} {mo mi mv : ME} {pos tpos : Pos} {k : Nat}
theorem ss_setA (hr : Room k X.A) (ho : SE X W mo o) (hi : SE X W mi i) (hv : SE X W mv value) (hs2 : swapsWith value (some (.Subscript o i tpos)) pos.line X.env = pure false := by rfl) (hs : swapsWithSole [.Subscript o i tpos] value pos.line X.env = pure false := by rfl) (hw : swappedStores [.Subscript o i tpos] value X.env = pure none := by rfl)
    (h1 : (assignEach [.Subscript o i tpos] X.env).map (·.2) = [assign (.Subscript o i tpos) X.env] := by rfl)
    (ha : ∀ v, assign (.Subscript o i tpos) X.env v = (do
      let ov ← holding [v] (eval o X.env)
      let iv ← holding [v, ov] (eval i X.env)
      standAt tpos
      holding [v, ov, iv] (setItem ov iv v)
      release [v, ov, iv] []) := by intro _; rfl) : SS X W (mSetA mo mi mv) (.Assign [.Subscript o i tpos] value pos) :=
  ss_two (ss_dput hr ho hi hv hs2) (ss_setIx ho hi hv hs hw h1 ha) fun Γ M => by
    unfold mSetA mDPut mSetIx
    cases mv Γ M with
    | ok d M1 =>
      simp only [toS_ok]
      cases mo Γ M1 with
      | ok e M2 =>
        simp only [toS_ok]
        cases mi Γ M2 with
        | ok x M3 =>
          simp only [toS_ok]
          split
          · exact .inl rfl
          · exact .inr rfl
        | exc y M3 => exact .inl rfl
        | stuck => exact .inl rfl
      | exc y M3 => exact .inl rfl
      | stuck => exact .inl rfl
    | exc y M3 => exact .inl rfl
    | stuck => exact .inl rfl
end
end DL

namespace DL
open PySem PySem.Spec PyProof.Rows L2
/-! texts, and more built-ins -/
def fXor (d e : D) (M : Sto) : Res D := match d, e with
  | .int i, .int j => .ok (.int (Builtin.bitXor i j)) M
  | _, _ => .stuck
theorem ops_xor {K : PySem.W.Frag} {mg : Str → Option Value} : OpS K mg (rI0 fun i j => .int (Builtin.bitXor i j)) fXor := by
  intro F ρ M H d e v u W Q st r r' h
  unfold fXor at h
  split at h
  · exact ⟨_, _, r.int, r'.int, AftK.ok h st (rep_int _)⟩
  · exact h.elim
/-! ### x += e of ints, texts, by the plain operator -/
def mAug (i : Nat) (f : D → D → Sto → Res D) (m : ME) : MS := fun Γ M => match Γ[i]? with
  | some (some d) => (m Γ M).toS Γ fun e M1 => (f d e M1).toS Γ fun y M2 => .nx (Γ.set i (some y)) M2
  | _ => .stuck
def fIAdd (d e : D) (M : Sto) : Res D := match d, e with
  | .int i, .int j => .ok (.int (i + j)) M
  | _, _ => .stuck
theorem ops_iadd {K : PySem.W.Frag} {mg : Str → Option Value} : OpS K mg (rI0 fun i j => .int (i + j)) fIAdd := by
  intro F ρ M H d e v u W Q st r r' h
  unfold fIAdd at h
  split at h
  · exact ⟨_, _, r.int, r'.int, AftK.ok h st (rep_int _)⟩
  · exact h.elim
section
variable {X : Cx} {W : WX} {e : Expr} {m : ME} {pos pos' : Pos} {op : Operator} {r : R2} {f : D → D → Sto → Res D}
theorem ss_aug {i : Nat} {x : Str} (hN : X.N.Nodup) (hi : X.N[i]? = some x) (hx : Loc X.env.scope x) (he : SE X W m e) (ho : OpR X (inplaceOp op) r) (hs : OpS X.K X.mg r f) (hf : X.fn x = true ∨ X.env.scope.names.lookup x = some .local := by first | exact .inl rfl | exact .inr rfl) : SS X W (mAug i f m) (.AugAssign (.Name x pos') op e pos) :=
  (ps_aug hN hi hx he (ti := r) ho hf).imp fun D σ H ⟨F, ρ, Γ, M, g, st, h⟩ => by
    unfold mAug at h
    split at h
    · rename_i d hd
      obtain ⟨v, hv, rv⟩ := g.2 i d hd
      refine ⟨v, hv, F, ρ, Γ, M, g, st, (AftS.bind h g rfl).imp fun F1 ρ1 M1 H1 y u gr st1 ru h1 => ?_⟩
      refine hs F1 ρ1 M1 H1 d y v u (WE W σ) _ st1 (rv.mono gr.f gr.r) ru ((AftS.bind h1 (g.grow gr) rfl).imp fun F2 ρ2 M2 H2 z w gr2 st2 rz h2 => ?_)
      exact h2 _ _ _ _ (Grow.refl _ _ _) st2 (((g.grow gr).grow gr2).set i rz) (by simp)
    · exact h.elim
end
/-! ### methods of texts -/
def strsOf : List D → Option (List Str)
  | [] => some []
  | .str x :: ds => (strsOf ds).map (x :: ·)
  | _ :: _ => none
theorem strsOf_rep {K : PySem.W.Frag} {mg : Str → Option Value} {F : Hp} {ρ : List Addr} : ∀ {ds : List D} {vs : List V} {ys : List Str}, Reps K mg F ρ ds vs → strsOf ds = some ys → vs = ys.map V.str
  | [], _, _, r, h => by rw [r.inv_nil]; simp [strsOf] at h; subst h; rfl
  | d :: ds, _, _, r, h => by
    obtain ⟨v, vs, rfl, a, b⟩ := r.inv_cons
    cases d <;> first
      | (simp [strsOf] at h; done)
      | skip
    simp only [strsOf, Option.map_eq_some_iff] at h
    obtain ⟨ys, h, rfl⟩ := h
    rw [a.str, strsOf_rep b h]; rfl
theorem strsOf_map : ∀ ys : List Str, strsOf (ys.map D.str) = some ys
  | [] => rfl
  | y :: ys => by simp [strsOf, strsOf_map ys]
def fJoin (d : D) (es : List D) (M : Sto) : Res D := match d, es with
  | .str a, [e] => match (seqOf M e).bind strsOf with
    | some ys => if (ys.map (·.length)).sum + ys.length * a.length ≤ 16777216 then .ok (.str (Txt.join a ys)) M else .stuck
    | none => .stuck
  | _, _ => .stuck
theorem mts_join {K : PySem.W.Frag} {mg : Str → Option Value} : MtS K mg "str" preS (fun x xs H Q => ∃ a p, ∃ ys : List Str, x = .str a ∧ xs = [.ref p] ∧ (SqL K H p (ys.map V.str) ∨ SqT K H p (ys.map V.str)) ∧
    (ys.map (·.length)).sum + ys.length * a.length ≤ 16777216 ∧ Q (.str (Txt.join a ys)) H) fJoin := by
  refine ⟨fun F ρ M H d v st r h => preS_ty st r h, fun F ρ M H d v ds vs W Q st r rs h => ?_⟩
  unfold fJoin at h
  split at h
  · rename_i a e
    split at h
    · rename_i ys hy
      obtain ⟨hz, h⟩ := iff_elim h
      obtain ⟨u, rfl, ru⟩ := reps1 rs
      cases hs : seqOf M e with
      | none => rw [hs] at hy; cases hy
      | some ds =>
        rw [hs] at hy
        obtain ⟨p, us, rfl, rr, _, q⟩ := seqOf_at st ru hs
        have e1 := strsOf_rep rr hy
        subst e1
        refine ⟨a, p, ys, r.str, rfl, ?_, hz, AftK.ok h st (rep_str _)⟩
        rcases q with ⟨_, q⟩ | ⟨_, q⟩
        · exact .inr q
        · exact .inl q
    · exact h.elim
  · exact h.elim
def fSplit (d : D) (es : List D) (M : Sto) : Res D := match d, es with
  | .str a, [.str b] => if (b.length == 0) = false ∧ a.length + 2 ≤ 16777216 then .ok (.lst ((Txt.split a b).map D.str)) M else .stuck
  | _, _ => .stuck
theorem reps_strs {K : PySem.W.Frag} {mg : Str → Option Value} {F : Hp} {ρ : List Addr} : ∀ ys : List Str, Reps K mg F ρ (ys.map D.str) (ys.map V.str)
  | [] => .nil
  | y :: ys => .cons (rep_str y) (reps_strs ys)
theorem mts_split {K : PySem.W.Frag} {mg : Str → Option Value} : MtS K mg "str" preS (fun x xs H Q => ∃ a b, x = .str a ∧ xs = [.str b] ∧ (b.length == 0) = false ∧ a.length + 2 ≤ sizeLine ∧ rNewStrs (Txt.split a b) H Q) fSplit := by
  refine ⟨fun F ρ M H d v st r h => preS_ty st r h, fun F ρ M H d v ds vs W Q st r rs h => ?_⟩
  unfold fSplit at h
  split at h
  · rename_i a b
    obtain ⟨⟨h0, hz⟩, h⟩ := iff_elim h
    obtain ⟨u, rfl, ru⟩ := reps1 rs
    have hz2 : a.length + 2 ≤ sizeLine := by rw [sizeLine_eq]; exact hz
    refine ⟨a, b, r.str, by rw [ru.str], h0, hz2, fun p hp => ?_⟩
    have hl : ((Txt.split a b).map V.str).length ≤ sizeLine := by
      rw [List.length_map]
      have := PyProof.Rows.split_le a b
      omega
    obtain ⟨st2, gr2⟩ := st.lay (o := .lst ((Txt.split a b).map V.str)) hp hl
    exact h _ _ _ _ gr2 st2 (rep_lst (by exact upd_same) (reps_strs _))
  · exact h.elim
/-! ### str(x), all, any -/
def fStr (ds : List D) (M : Sto) : Res D := match ds with
  | [.int i] => if i.natAbs.log2 < 1920 then .ok (.str (toString i)) M else .stuck
  | [.str a] => .ok (.str a) M
  | _ => .stuck
def rStr : List V → Hp → VK → Prop := fun xs H Q => (∃ i : Int, xs = [.int i] ∧ i.natAbs.log2 < 1920 ∧ Q (.str (toString i)) H) ∨ ∃ a, xs = [.str a] ∧ Q (.str a) H
theorem call_strA {X : Cx} : CallR X (.type "str") rStr := by
  intro pins s σ H xs us Q I r h
  rcases h with h | h
  · exact call_str_int pins s σ H xs us Q I r h
  · exact SkE.call_str_str pins s σ H xs us Q I r h
theorem cs_str {K : PySem.W.Frag} {mg : Str → Option Value} : CallS K mg rStr fStr := by
  intro F ρ M H ds vs W Q st r h
  unfold fStr at h
  split at h
  · obtain ⟨hz, h⟩ := iff_elim h
    obtain ⟨v, rfl, rv⟩ := reps1 r
    exact .inl ⟨_, by rw [rv.int], hz, AftK.ok h st (rep_str _)⟩
  · obtain ⟨v, rfl, rv⟩ := reps1 r
    exact .inr ⟨_, by rw [rv.str], AftK.ok h st (rep_str _)⟩
  · exact h.elim
def boolsOf : List D → Option (List Bool)
  | [] => some []
  | .bl x :: ds => (boolsOf ds).map (x :: ·)
  | _ :: _ => none
theorem boolsOf_rep {K : PySem.W.Frag} {mg : Str → Option Value} {F : Hp} {ρ : List Addr} : ∀ {ds : List D} {vs : List V} {ys : List Bool}, Reps K mg F ρ ds vs → boolsOf ds = some ys → vs = ys.map V.bl
  | [], _, _, r, h => by rw [r.inv_nil]; simp [boolsOf] at h; subst h; rfl
  | d :: ds, _, _, r, h => by
    obtain ⟨v, vs, rfl, a, b⟩ := r.inv_cons
    cases d <;> first
      | (simp [boolsOf] at h; done)
      | skip
    simp only [boolsOf, Option.map_eq_some_iff] at h
    obtain ⟨ys, h, rfl⟩ := h
    rw [a.bl, boolsOf_rep b h]; rfl
theorem boolsOf_map : ∀ ys : List Bool, boolsOf (ys.map D.bl) = some ys
  | [] => rfl
  | y :: ys => by simp [boolsOf, boolsOf_map ys]
def fAll (ds : List D) (M : Sto) : Res D := match ds with
  | [d] => match (lstOf M d).bind boolsOf with
    | some bs => .ok (.bl (bs.all id)) M
    | none => .stuck
  | _ => .stuck
def fAny (ds : List D) (M : Sto) : Res D := match ds with
  | [d] => match (lstOf M d).bind boolsOf with
    | some bs => .ok (.bl (bs.any id)) M
    | none => .stuck
  | _ => .stuck
theorem cs_all {K : PySem.W.Frag} {mg : Str → Option Value} : CallS K mg (rAll K) fAll := by
  intro F ρ M H ds vs W Q st r h
  unfold fAll at h
  split at h
  · rename_i d
    split at h
    · rename_i bs hb
      obtain ⟨v, rfl, rv⟩ := reps1 r
      cases hs : lstOf M d with
      | none => rw [hs] at hb; cases hb
      | some ds =>
        rw [hs] at hb
        obtain ⟨a, us, rfl, hH, rr, _⟩ := lstOf_at st rv hs
        have e1 := boolsOf_rep rr hb
        subst e1
        exact ⟨a, bs, rfl, SqL.of hH, AftK.ok h st (rep_bl _)⟩
    · exact h.elim
  · exact h.elim
theorem cs_any {K : PySem.W.Frag} {mg : Str → Option Value} : CallS K mg (rAny K) fAny := by
  intro F ρ M H ds vs W Q st r h
  unfold fAny at h
  split at h
  · rename_i d
    split at h
    · rename_i bs hb
      obtain ⟨v, rfl, rv⟩ := reps1 r
      cases hs : lstOf M d with
      | none => rw [hs] at hb; cases hb
      | some ds =>
        rw [hs] at hb
        obtain ⟨a, us, rfl, hH, rr, _⟩ := lstOf_at st rv hs
        have e1 := boolsOf_rep rr hb
        subst e1
        exact ⟨a, bs, rfl, SqL.of hH, AftK.ok h st (rep_bl _)⟩
    · exact h.elim
  · exact h.elim
theorem bt_all : bootBuiltins "all" = some (.builtin "all") := by decide +kernel
theorem bt_any : bootBuiltins "any" = some (.builtin "any") := by decide +kernel
/-! ### xs.pop(i) -/
def fPopAt (d : D) (es : List D) (M : Sto) : Res D := match d, es with
  | .ref n, [.int i] => match M[n]? with
    | some (.lst xs) => if -9223372036854775808 ≤ i ∧ i < 9223372036854775808 then match seqIndex? i xs.length with
      | some k => match xs[k]? with
        | some y => .ok y (M.set n (.lst (xs.eraseIdx k)))
        | none => .stuck
      | none => .stuck else .stuck
    | _ => .stuck
  | _, _ => .stuck
theorem Reps.erase {K : PySem.W.Frag} {mg : Str → Option Value} {F : Hp} {ρ : List Addr} : ∀ {ds : List D} {vs : List V} (k : Nat), Reps K mg F ρ ds vs → Reps K mg F ρ (ds.eraseIdx k) (vs.eraseIdx k)
  | [], _, k, r => by rw [r.inv_nil]; simpa using Reps.nil
  | d :: ds, _, 0, r => by
    obtain ⟨v, vs, rfl, a, b⟩ := r.inv_cons
    simpa using b
  | d :: ds, _, k + 1, r => by
    obtain ⟨v, vs, rfl, a, b⟩ := r.inv_cons
    simpa using Reps.cons a (Reps.erase k b)
theorem mts_popAt {K : PySem.W.Frag} {mg : Str → Option Value} : MtS K mg "list" preL rPopAt fPopAt := by
  refine ⟨fun F ρ M H d v st r h => preL_ty st r h, fun F ρ M H d v ds vs W Q st r rs h => ?_⟩
  unfold fPopAt at h
  split at h
  · rename_i n i
    split at h
    · rename_i xs hx
      obtain ⟨hz, h⟩ := iff_elim h
      split at h
      · rename_i k hk
        split at h
        · rename_i y hy
          obtain ⟨a, rfl, q⟩ := r.ref
          obtain ⟨u, rfl, ru⟩ := reps1 rs
          obtain ⟨a', h3, h4⟩ := st.at_ n _ hx
          rw [q] at h3; cases h3
          obtain ⟨nF, us, hH, rr, z⟩ := h4
          obtain ⟨v, hv, rv⟩ := rr.get hy
          refine ⟨a, us, i, k, v, rfl, by rw [ru.int], hH, by omega, by omega, by rw [rr.len]; exact hk, hv, ?_⟩
          obtain ⟨st2, gr2⟩ := st.write (ho := .lst (us.eraseIdx k)) (o' := .lst (xs.eraseIdx k)) q nF ⟨nF, _, upd_same, Reps.erase k rr, Nat.le_trans (by rw [List.length_eraseIdx]; split <;> omega) z⟩
          exact h _ _ _ _ gr2 st2 rv
        · exact h.elim
      · exact h.elim
    · exact h.elim
  · exact h.elim
/-! ### f-strings -/
def mFv (m : ME) : ME := fun Γ M => (m Γ M).bind fun d M1 => match d with
  | .str y => if y.length ≤ 16777216 then .ok (.str y) M1 else .stuck
  | .int i => if i.natAbs.log2 < 1920 then .ok (.str (toString i)) M1 else .stuck
  | _ => .stuck
def mJs : List ME → Str → DEnv → Sto → Res D
  | [], acc, _, M => .ok (.str acc) M
  | m :: ms, acc, Γ, M => (m Γ M).bind fun d M1 => match d with
    | .str y => if (acc ++ y).length ≤ 16777216 then mJs ms (acc ++ y) Γ M1 else .stuck
    | _ => .stuck
def mFstr (ms : List ME) : ME := fun Γ M => mJs ms Str.empty Γ M
section
variable {X : Cx} {W : WX} {e : Expr} {m : ME} {pos : Pos}
theorem se_fmt (he : SE X W m e) : SE X W (mFv m) (.FormattedValue e (-1) none pos) :=
  (pe_fmt he).imp fun σ H Q ⟨F, ρ, Γ, M, g, st, h⟩ => ⟨F, ρ, Γ, M, g, st, h.bind.imp fun F1 ρ1 M1 H1 d v gr st1 rv h1 => by
    split at h1
    · obtain ⟨hz, h1⟩ := iff_elim h1
      exact .inl ⟨_, rv.str, by rw [sizeLine_eq]; exact hz, AftK.ok h1 st1 (rep_str _)⟩
    · obtain ⟨hz, h1⟩ := iff_elim h1
      exact .inr ⟨_, rv.int, hz, AftK.ok h1 st1 (rep_str _)⟩
    · exact h1.elim⟩
abbrev SJ (X : Cx) (W : WX) (es : List Expr) (ms : List ME) : Prop := PJ X es (ms.map (tD X.K X.mg W))
theorem sj_nil : SJ X W [] [] := .nil
theorem sj_cons {es : List Expr} {ms : List ME} (he : SE X W m e) (h : SJ X W es ms) : SJ X W (e :: es) (m :: ms) := .cons he h
theorem js_imp {K : PySem.W.Frag} {mg : Str → Option Value} {W : WX} {Q : VK} : ∀ (ms : List ME) {acc : Str} {σ : L2.St} {H : Hp} {F : Hp} {ρ : List Addr} {Γ : DEnv} {M : Sto}, GOk K mg F ρ Γ σ → StOk K mg F ρ M H →
    AftK K mg (Rep K mg) (WE W σ) (mJs ms acc Γ M) F ρ H (fun _ _ _ H' _ v => Q v H') → tJs (ms.map (tD K mg W)) acc σ H fun out H1 => Q (.str out) H1
  | [], acc, σ, H, F, ρ, Γ, M, g, st, h => AftK.ok h st (rep_str _)
  | m :: ms, acc, σ, H, F, ρ, Γ, M, g, st, h => by
    refine ⟨F, ρ, Γ, M, g, st, h.bind.imp fun F1 ρ1 M1 H1 d v gr st1 rv h1 => ?_⟩
    split at h1
    · rename_i y
      obtain ⟨hz, h1⟩ := iff_elim h1
      exact ⟨y, rv.str, by rw [sizeLine_eq]; exact hz, js_imp ms (g.grow gr) st1 h1⟩
    · exact h1.elim
theorem se_joined {v1 v2 : Expr} {rest : List Expr} {ms : List ME} (h : SJ X W (v1 :: v2 :: rest) ms) : SE X W (mFstr ms) (.JoinedStr (v1 :: v2 :: rest) pos) :=
  (pe_joined h).imp fun σ H Q ⟨F, ρ, Γ, M, g, st, h⟩ => js_imp ms g st h
/-! ### names of the module -/
structure GlI (mg : Str → Option Value) (x : Str) (i : Int) : Prop where
  at_ : ∃ t, mg x = some (.int i t)
structure GlS (mg : Str → Option Value) (x : Str) (y : Str) : Prop where
  at_ : ∃ t, mg x = some (.str y t)
theorem se_globI {x : Str} {i : Int} (hg : Gl X x) (h : GlI X.mg x i) (hd : (x == ("__debug__" : Str)) = false := by decide) : SE X W (mC (.int i)) (.Name x pos) :=
  let ⟨t, e⟩ := h.at_
  se_c (v := .int i) (pe_glob hg e ⟨t, rfl⟩ hd) fun _ _ => rep_int i
theorem se_globS {x y : Str} (hg : Gl X x) (h : GlS X.mg x y) (hd : (x == ("__debug__" : Str)) = false := by decide) : SE X W (mC (.str y)) (.Name x pos) :=
  let ⟨t, e⟩ := h.at_
  se_c (v := .str y) (pe_glob hg e ⟨t, rfl⟩ hd) fun _ _ => rep_str y
end
end DL

namespace DL
open PySem PySem.Spec PyProof.Rows L2
/-! dicts of the module: text keys, ints -/
def TabIs (P : Params) : List DictEntry → List (Str × Int) → Prop
  | [], [] => True
  | e :: es, p :: ps => ((∃ t, e.key = .str p.1 t) ∧ e.hash = PyData.keyHash P p.1 ∧ ∃ t, e.val = .int p.2 t) ∧ TabIs P es ps
  | _, _ => False
structure KTab (K : PySem.W.Frag) (w : World) (mg : Str → Option Value) (x : Str) (tab : List (Str × Int)) : Prop where
  at_ : ∃ a es n, mg x = some (.ref a) ∧ K.lookup a = some ⟨.type "dict", none, .dict es n, #[]⟩ ∧ (a == sysModules) = false ∧ TabIs w.params es.toList tab
theorem TabIs.lit {P : Params} : ∀ {es : List DictEntry} {tab : List (Str × Int)}, TabIs P es tab → PySem.W.KeysLit P es
  | [], [], _ => trivial
  | _ :: _, [], h => h.elim
  | [], _ :: _, h => h.elim
  | e :: es, p :: ps, ⟨⟨⟨t, h1⟩, h2, _⟩, h⟩ => ⟨⟨_, t, h1, h2⟩, TabIs.lit h⟩
def tabGet (tab : List (Str × Int)) (x : Str) : Option Int := (tab.find? fun p => decide (p.1 = x)).map (·.2)
theorem TabIs.find {P : Params} {x : Str} : ∀ {es : List DictEntry} {tab : List (Str × Int)}, TabIs P es tab →
    ((es.find? fun e => PySem.Value.isStrOf x e.key).map (·.val) = none ∧ tabGet tab x = none) ∨ ∃ i t, (es.find? fun e => PySem.Value.isStrOf x e.key).map (·.val) = some (.int i t) ∧ tabGet tab x = some i
  | [], [], _ => .inl ⟨rfl, rfl⟩
  | _ :: _, [], h => h.elim
  | [], _ :: _, h => h.elim
  | e :: es, p :: ps, ⟨⟨⟨t, h1⟩, h2, u, h3⟩, h⟩ => by
    have ih := TabIs.find (x := x) h
    have hk : PySem.Value.isStrOf x e.key = decide (p.1 = x) := by
      rw [h1]
      show (p.1 == x) = _
      by_cases q : p.1 = x
      · rw [beq_iff_eq.mpr q, decide_eq_true q]
      · rw [beq_eq_false_iff_ne.mpr q, decide_eq_false q]
    by_cases q : p.1 = x
    · refine .inr ⟨p.2, u, ?_, ?_⟩
      · rw [List.find?_cons, hk, decide_eq_true q]
        simp [h3]
      · simp [tabGet, List.find?_cons, q]
    · have e1 : ((e :: es).find? fun e => PySem.Value.isStrOf x e.key) = es.find? fun e => PySem.Value.isStrOf x e.key := by rw [List.find?_cons, hk, decide_eq_false q]
      have e2 : tabGet (p :: ps) x = tabGet ps x := by simp [tabGet, List.find?_cons, q]
      rw [e1, e2]
      exact ih

section
variable {X : Cx} {x : Str} {e f : Expr} {p apos cpos pos : Pos} {ty tx : TE} {tab : List (Str × Int)}
def tKGet (tab : List (Str × Int)) (ty tx : TE) : TE := fun σ H Q => ty σ H fun y H1 => tx σ H1 fun z H2 => ∃ k, y = .str k ∧ Q (((tabGet tab k).map V.int).getD z) H2
theorem pe_kget2 (T : KTab X.K X.w X.mg x tab) (hg : Gl X x) (he : PE X e ty) (hf : PE X f tx) (m : M2 X (.Name x p) "get" apos e f cpos) (hd : (x == ("__debug__" : Str)) = false) : PE X (.Call (.Attribute (.Name x p) "get" apos) [e, f] [] cpos) (tKGet tab ty tx) := by
  obtain ⟨a, es, n, hm, hl, lo, tb⟩ := T.at_
  have hn : PE X (.Name x p) (tC (.ref a)) := pe_glob hg hm rfl hd
  refine ⟨fun pins s σ H Q I h => ?_⟩
  refine wpAny_Call_method m.base m.few m.line PySem.F.plainAttrs_dict PySem.F.slot_dict_get PySem.F.type_dict_get (thn (hn.run pins s σ H (fun v H' => v = .ref a ∧ H' = H) I ⟨rfl, rfl⟩) fun u s1 hu => ?_)
  obtain ⟨v, H1, I1, rv, ev, eh⟩ := hu
  subst ev eh
  obtain rfl : u = Value.ref a := rv
  have mo1 := PySem.W.mapOf_K (prog := X.prog) (w := X.w) I1.kIn hl tb.lit
  refine ⟨mo1.typeIs, fun b q => ?_, ?_⟩
  · cases q
    exact ⟨_, I1.kIn _ _ hl, rfl⟩
  rw [m.trees]
  refine Calls.callWith_builtin rfl (Calls.evalArgs_plain (Calls.spliced_cons (thn (he.run pins s1 σ _ _ I1 h) fun iv s2 hv => ?_)))
  obtain ⟨y, H2, I2, ry, q2⟩ := hv
  refine Calls.spliced_cons (thn (hf.run pins s2 σ H2 _ I2 q2) fun fv s3 hv => Calls.spliced_nil ?_)
  obtain ⟨z, H3, I3, rz, k, ey, q3⟩ := hv
  subst ey
  obtain ⟨t, rfl⟩ := ry
  have mo3 := PySem.W.mapOf_K (prog := X.prog) (w := X.w) I3.kIn hl tb.lit
  refine call_meetsIn PySem.F.slot_dict_get mo3.typeIs PySem.F.entry_dict_get (PySem.F.args_dict_get_3 _ _ _) (meets_dict_get_default (PySem.strKind X.prog X.w) a (PySem.strKind_is X.prog X.w k t) lo fv) ⟨_, mo3, ?_⟩
  have hf2 := TabIs.find (x := k) tb
  obtain ⟨es⟩ := es
  rcases hf2 with ⟨h1, h2⟩ | ⟨i, t2, h1, h2⟩
  · rw [h2] at q3
    refine ⟨z, H3, I3.tok _, ?_, q3⟩
    unfold findBy
    rw [List.find?_toArray]
    simp only at h1
    rw [h1]
    exact rz
  · rw [h2] at q3
    refine ⟨.int i, H3, I3.tok _, ?_, q3⟩
    unfold findBy
    rw [List.find?_toArray]
    simp only at h1
    rw [h1]
    exact ⟨t2, rfl⟩
end
def mKGet (tab : List (Str × Int)) (me mx : ME) : ME := fun Γ M => (me Γ M).bind fun d M1 => (mx Γ M1).bind fun y M2 => match d with
  | .str k => .ok (((tabGet tab k).map D.int).getD y) M2
  | _ => .stuck
section
variable {X : Cx} {W : WX} {x : Str} {e f : Expr} {p apos cpos pos : Pos} {me mx : ME} {tab : List (Str × Int)}
theorem se_kget2 (T : KTab X.K X.w X.mg x tab) (hg : Gl X x) (he : SE X W me e) (hf : SE X W mx f) (m : M2 X (.Name x p) "get" apos e f cpos := by exact ⟨rfl, rfl, rfl, rfl⟩) (hd : (x == ("__debug__" : Str)) = false := by decide) : SE X W (mKGet tab me mx) (.Call (.Attribute (.Name x p) "get" apos) [e, f] [] cpos) :=
  (pe_kget2 T hg he hf m hd).imp fun σ H Q ⟨F, ρ, Γ, M, g, st, h⟩ => ⟨F, ρ, Γ, M, g, st, h.bind.imp fun F1 ρ1 M1 H1 d v gr st1 rv h1 => ⟨F1, ρ1, Γ, M1, g.grow gr, st1,
    h1.bind.imp fun F2 ρ2 M2 H2 y u gr2 st2 ru h2 => by
      split at h2
      · rename_i k
        refine ⟨k, (rv.mono gr2.f gr2.r).str, AftK.ok h2 st2 ?_⟩
        cases tabGet tab k with
        | none => exact ru
        | some i => exact rep_int i
      · exact h2.elim⟩⟩
/-- x in a dict of the module -/
def mKIn (neg : Bool) (tab : List (Str × Int)) (me : ME) : MT := fun Γ M => (me Γ M).bind fun d M1 => match d with
  | .str k => .ok (if neg = true then (tabGet tab k).isNone else (tabGet tab k).isSome) M1
  | _ => .stuck
theorem tab_nsIn {K : PySem.W.Frag} {w : World} {a : Addr} {es : Array DictEntry} {n : Nat} {k : Str} (hl : K.lookup a = some ⟨.type "dict", none, .dict es n, #[]⟩) (tb : TabIs w.params es.toList tab) : ∃ r, PySem.W.nsIn K a k = some r ∧ r.isSome = (tabGet tab k).isSome := by
  unfold PySem.W.nsIn
  rw [hl]
  dsimp only
  have q : (fun d : DictEntry => d.key.isStr k) = fun d => PySem.Value.isStrOf k d.key := funext fun d => PySem.W.isStr_of k d.key
  have hn : es.toList.any (·.refKey) = false := by
    rw [List.any_eq_false]
    intro e he
    obtain ⟨y, t, e1, _⟩ := tb.lit.all e he
    unfold DictEntry.refKey
    rw [e1]
    simp
  have hf := TabIs.find (x := k) tb
  rw [q]
  cases hfd : es.toList.find? fun d => PySem.Value.isStrOf k d.key with
  | none =>
    rw [hfd] at hf
    rcases hf with ⟨_, h2⟩ | ⟨i, t, h1, _⟩
    · exact ⟨none, by simp only [hn]; rfl, by rw [h2]; rfl⟩
    · cases h1
  | some d =>
    rw [hfd] at hf
    rcases hf with ⟨h1, _⟩ | ⟨i, t, h1, h2⟩
    · cases h1
    · exact ⟨some d.val, rfl, by rw [h2]; rfl⟩
theorem st_kin (T : KTab X.K X.w X.mg x tab) (hg : Gl X x) (he : SE X W me e) (hd : (x == ("__debug__" : Str)) = false := by decide) : ST X W (mKIn false tab me) (.Compare e [.In] [.Name x p] pos) := by
  obtain ⟨a, es, n, hm, hl, lo, tb⟩ := T.at_
  refine (pt_cmpR (op_in_kd ⟨hl, tb.lit, lo⟩) he (pe_glob (pos := p) hg hm (v := .ref a) rfl hd) rfl).imp fun σ H Q ⟨F, ρ, Γ, M, g, st, h⟩ => ⟨F, ρ, Γ, M, g, st, h.bind.imp fun F1 ρ1 M1 H1 d v gr st1 rv h1 => ?_⟩
  split at h1
  · rename_i k
    obtain ⟨r, h2, h3⟩ := tab_nsIn (k := k) hl tb
    refine ⟨k, r, rv.str, rfl, h2, _, rfl, ?_⟩
    rw [h3]
    exact AftK.ok (b := ()) h1 st1 trivial
  · exact h1.elim
theorem st_knotin (T : KTab X.K X.w X.mg x tab) (hg : Gl X x) (he : SE X W me e) (hd : (x == ("__debug__" : Str)) = false := by decide) : ST X W (mKIn true tab me) (.Compare e [.NotIn] [.Name x p] pos) := by
  obtain ⟨a, es, n, hm, hl, lo, tb⟩ := T.at_
  refine (pt_cmpR (op_notIn_kd ⟨hl, tb.lit, lo⟩) he (pe_glob (pos := p) hg hm (v := .ref a) rfl hd) rfl).imp fun σ H Q ⟨F, ρ, Γ, M, g, st, h⟩ => ⟨F, ρ, Γ, M, g, st, h.bind.imp fun F1 ρ1 M1 H1 d v gr st1 rv h1 => ?_⟩
  split at h1
  · rename_i k
    obtain ⟨r, h2, h3⟩ := tab_nsIn (k := k) hl tb
    refine ⟨k, r, rv.str, rfl, h2, _, rfl, ?_⟩
    rw [h3]
    have := AftK.ok (b := ()) h1 st1 trivial
    cases h4 : tabGet tab k <;> rw [h4] at this <;> exact this
  · exact h1.elim
end
end DL

namespace DL
open PySem PySem.Spec PyProof.Rows L2
/-! enumerate of lists and texts -/
/-- a text's signs, in new pairs with their places -/
def Ites (x : Str) : It :=
  ⟨fun i _ => i < x.cps.size, fun i H v H' => ∃ T c, x.cps[i]? = some c ∧ v = .ref T ∧ H T = none ∧ H' = upd H T (.tup [.int (i : Nat), .str ⟨#[c]⟩]), fun i _ => x.cps.size ≤ i⟩
theorem turn_enumS {P : Program} {w : World} {K : PySem.W.Frag} {elts : List Expr} {kk : Nat} {tpos : Pos} (e it : Addr) (x : Str) (t : Tok) (ty : String) (hty : ty = "str_ascii_iterator" ∨ ty = "str_iterator") :
    Turn P w K (.Tuple elts kk tpos) (Ites x) [e, it] e (fun i h => (∃ old, IsEnum h e it ((i : Nat) : Int) old) ∧ h.IsStrIter it ty x t i ∧ e ≠ it ∧ i ≤ x.cps.size) where
  mem := by simp
  obj := fun i h st b hb => by
    obtain ⟨⟨old, he⟩, ⟨o, ho, hc, hd⟩, _⟩ := st
    rcases (show b = e ∨ b = it by simpa using hb) with z | z
    · subst z; exact ⟨_, he, fun v q => nomatch q⟩
    · subst z; exact ⟨o, ho, fun v q => by rw [hd] at q; cases q⟩
  keep := fun i h h' st k => let ⟨⟨old, he⟩, ⟨o, ho, r⟩, hne, hle⟩ := st; ⟨⟨old, k e (by simp) _ he⟩, ⟨o, k it (by simp) o ho, r⟩, hne, hle⟩
  item := by
    intro X hP hw hK hc i pins s σ H E I hf st hg
    subst hP hw hK
    obtain ⟨⟨old, he⟩, hit, hne, hle⟩ := st
    have hlt : i < x.cps.size := hg
    have D : Draws X.prog X.w X.A.in1 it [it] x.cps.size (fun i v => ∃ c u, x.cps[i]? = some c ∧ v = .str ⟨#[c]⟩ u) (fun i h => h.IsStrIter it ty x t i) := by
      rcases hty with z | z
      · rw [z]; exact Draws.strAscii (A := X.A.in1) (I.ok.hd hc) it x t
      · rw [z]; exact Draws.strWide (A := X.A.in1) (I.ok.hd hc) it x t
    have hel : e < s.heap.objs.size := Heap.lt_size he
    have hil : it < s.heap.objs.size := by obtain ⟨_, q, _⟩ := hit; exact Heap.lt_size q
    refine wpAny_pyNext_enum_itemD D he hit hlt hne (by simpa using hne) fun u h' tk hu ho hit' hT hsz hk => ?_
    obtain ⟨c, tc, hcx, rfl⟩ := hu
    refine ⟨_, rfl, wpAny_letOwnedTupleGo_enum (s := { s with heap := h', toks := tk + 1 }) ho fun h'' he' sb => ?_⟩
    have hT2 : h''.get? s.heap.objs.size = some { cls := .type "tuple", data := .seq #[.int i tk, .str ⟨#[c]⟩ tc] } := (sb.2 _ (Nat.ne_of_gt hel)).trans hT
    have new : ObjOk X.prog X.w (upd H s.heap.objs.size (.tup [.int (i : Nat), .str ⟨#[c]⟩])) h'' s.heap.objs.size (.tup [.int (i : Nat), .str ⟨#[c]⟩]) :=
      ⟨by show 2 ≤ sizeLine; decide, [.int i tk, .str ⟨#[c]⟩ tc], .cons ⟨_, rfl⟩ (.cons ⟨_, rfl⟩ .nil), ⟨_, hT2, rfl, _, rfl⟩⟩
    have I1 : Inv X pins σ (upd H s.heap.objs.size (.tup [.int (i : Nat), .str ⟨#[c]⟩])) { s with heap := h'', toks := tk + 1 } :=
      I.turnedNew (ch := [e, it]) (fun b ob hb q => (sb.2 b (fun z => hb (by simp [z]))).trans (hk b ob (fun z => hb (by simp [z])) (fun z => hb (by simp [z])) q)) hf (Nat.le_refl _) new
    refine ⟨.ref s.heap.objs.size, _, I1, rfl, ⟨_, c, hcx, rfl, I.hok.fresh (Nat.le_refl _), rfl⟩, ⟨⟨.str ⟨#[c]⟩ tc, ?_⟩, ?_, hne, hlt⟩, fun b hb => ?_⟩
    · have e1 : ((i + 1 : Nat) : Int) = (i : Int) + 1 := by omega
      rw [e1]; exact he'
    · obtain ⟨o, q, r⟩ := hit'
      exact ⟨o, (sb.2 it (Ne.symm hne)).trans q, r⟩
    · have hb' : b < s.heap.objs.size := by
        rcases (show b = e ∨ b = it by simpa using hb) with z | z
        · rw [z]; exact hel
        · rw [z]; exact hil
      rw [upd_ne (Nat.ne_of_lt hb')]
      exact (hf b hb).1
  done := by
    intro X hP hw hK hc i pins s σ H E I hf st hg
    subst hP hw hK
    obtain ⟨⟨old, he⟩, hit, hne, hle⟩ := st
    have hi : i = x.cps.size := Nat.le_antisymm hle hg
    subst hi
    have D : Draws X.prog X.w X.A.in1 it [it] x.cps.size (fun i v => ∃ c u, x.cps[i]? = some c ∧ v = .str ⟨#[c]⟩ u) (fun i h => h.IsStrIter it ty x t i) := by
      rcases hty with z | z
      · rw [z]; exact Draws.strAscii (A := X.A.in1) (I.ok.hd hc) it x t
      · rw [z]; exact Draws.strWide (A := X.A.in1) (I.ok.hd hc) it x t
    obtain ⟨f0, f1, f2, f3, f4, f5⟩ := hf it (by simp)
    exact wpAny_pyNext_enum_endD D he hit fun h' eb => ⟨rfl, I.turned (t' := s.toks) (fun b o hb q => eb b o hb q) f0 f1 f3 f4 f5⟩
  self := fun A i s Q E st h => let ⟨⟨_, he⟩, _⟩ := st; wpAny_pyIter_enum he h
def iEnumS (ta : TA) : TI := fun σ H R => ta σ H fun vs H1 => ∃ x, vs = [.str x] ∧ R (Ites x) H1
theorem pi_enumS {X : Cx} {e : Expr} {ta : TA} {p pos tpos : Pos} {elts : List Expr} {kk : Nat} (hg : Gl X "enumerate") (hm : X.mg "enumerate" = none) (ha : PA X [e] ta) (hs : starEach [e] X.env = [(false, eval e X.env)] := by rfl) :
    PI X (.Tuple elts kk tpos) (.Call (.Name "enumerate" p) [e] [] pos) (iEnumS ta) := by
  refine ⟨fun pins s σ H R I h => ?_⟩
  refine Call_ (ld_blt I hg hm boot_enumerate (PyProof.Rows.callWith_type1 (thn (ha.run pos pins s σ H _ I h) fun us s1 hv => ?_) hs rfl))
  obtain ⟨vs, H1, I1, r1, x, ex, q⟩ := hv
  subst ex
  obtain ⟨u, rfl, t, rfl⟩ := vals1 r1
  refine call_enumerate_str fun h' he hit hsz hk => wpAny_pyIter_enum he ?_
  have I2 : Inv X pins σ H1 { s1 with heap := h' } := I1.kept (t' := s1.toks) hk
  have fp : ∀ b ∈ [s1.heap.objs.size + 1, s1.heap.objs.size], FpOk X pins H1 b := fun b hb => by
    have hle : s1.heap.objs.size ≤ b := by
      rcases (show b = s1.heap.objs.size + 1 ∨ b = s1.heap.objs.size by simpa using hb) with z | z
      · rw [z]; exact Nat.le_add_right _ _
      · rw [z]; exact Nat.le_refl _
    exact I1.fpOk hle (I1.hok.fresh hle)
  cases hall : x.cps.all (· < 128)
  · have hit' : h'.IsStrIter s1.heap.objs.size "str_iterator" x t 0 := by simpa [strIterType, hall] using hit
    exact ⟨s1.heap.objs.size + 1, [s1.heap.objs.size + 1, s1.heap.objs.size], _, _, H1, rfl, I2, turn_enumS (s1.heap.objs.size + 1) s1.heap.objs.size x t "str_iterator" (.inr rfl), ⟨⟨.none, he⟩, hit', Nat.succ_ne_self _, Nat.zero_le _⟩, fp, q⟩
  · have hit' : h'.IsStrIter s1.heap.objs.size "str_ascii_iterator" x t 0 := by simpa [strIterType, hall] using hit
    exact ⟨s1.heap.objs.size + 1, [s1.heap.objs.size + 1, s1.heap.objs.size], _, _, H1, rfl, I2, turn_enumS (s1.heap.objs.size + 1) s1.heap.objs.size x t "str_ascii_iterator" (.inl rfl), ⟨⟨.none, he⟩, hit', Nat.succ_ne_self _, Nat.zero_le _⟩, fp, q⟩

/-- pairs of places and things -/
def enumD : Nat → List D → List D
  | _, [] => []
  | n, d :: ds => .tup [.int (n : Int), d] :: enumD (n + 1) ds
theorem enumD_len : ∀ (n : Nat) (ds : List D), (enumD n ds).length = ds.length
  | _, [] => rfl
  | n, d :: ds => by simp [enumD, enumD_len (n + 1) ds]
theorem enumD_get : ∀ {n : Nat} {ds : List D} {i : Nat} {e : D}, (enumD n ds)[i]? = some e → ∃ d, ds[i]? = some d ∧ e = .tup [.int ((n + i : Nat) : Int), d]
  | n, [], i, e, h => by simp [enumD] at h
  | n, d :: ds, 0, e, h => by
    simp [enumD] at h
    exact ⟨d, rfl, by simp [← h]⟩
  | n, d :: ds, i + 1, e, h => by
    obtain ⟨d', h1, h2⟩ := enumD_get (n := n + 1) (ds := ds) (i := i) (by simpa [enumD] using h)
    refine ⟨d', by simpa using h1, ?_⟩
    rw [h2]
    congr 3
    omega
def signsD (x : Str) : List D := x.cps.toList.map fun c => .str ⟨#[c]⟩
theorem signs_at {x : Str} {i : Nat} {d : D} (h : (signsD x)[i]? = some d) : ∃ c, x.cps[i]? = some c ∧ d = .str ⟨#[c]⟩ := by
  unfold signsD at h
  rw [List.getElem?_map, Option.map_eq_some_iff] at h
  obtain ⟨c, h1, h2⟩ := h
  exact ⟨c, by simpa using h1, h2.symm⟩
section
variable {K : PySem.W.Frag} {mg : Str → Option Value} {F : Hp} {ρ : List Addr}
theorem jok_enum {a : Addr} {vs : List V} {ds : List D} (h1 : SqL K F a vs) (r1 : Reps K mg F ρ ds vs) (z : vs.length ≤ sizeLine) : JOk K mg F ρ (enumD 0 ds, kT) (L2.Ite K a) := by
  have l1 := r1.len
  refine ⟨by rw [enumD_len, ← l1]; exact z, fun F1 ρ1 M1 H1 i s p st _ => ⟨fun d hd => ?_, fun hi => ?_⟩⟩
  · obtain ⟨x, hx, rfl⟩ := enumD_get hd
    obtain ⟨v, hv, rv⟩ := r1.get hx
    refine ⟨⟨vs, v, st.sub.sqL (s.sqL h1), hv⟩, fun x' H' yy => ?_⟩
    obtain ⟨T, x1, rfl, hT, rfl, f1⟩ := yy
    have e1 := f1 vs (st.sub.sqL (s.sqL h1))
    rw [hv] at e1; cases e1
    obtain ⟨st2, gr2⟩ := st.lay (o := .tup [.int ((i : Nat) : Int), v]) hT (by show 2 ≤ sizeLine; decide)
    refine ⟨_, gr2, st2, rep_tup upd_same (.cons ?_ (.cons ((rv.mono s p).mono gr2.f gr2.r) .nil))⟩
    rw [Nat.zero_add]
    exact rep_int _
  · rw [enumD_len] at hi
    exact ⟨vs, st.sub.sqL (s.sqL h1), by omega⟩
theorem jok_enumS {x : Str} (z : x.length ≤ sizeLine) : JOk K mg F ρ (enumD 0 (signsD x), kT) (Ites x) := by
  have hl : (signsD x).length = x.cps.size := by simp [signsD]
  refine ⟨by rw [enumD_len, hl]; exact z, fun F1 ρ1 M1 H1 i s p st _ => ⟨fun d hd => ?_, fun hi => by rw [enumD_len, hl] at hi; exact hi⟩⟩
  obtain ⟨y, hy, rfl⟩ := enumD_get hd
  obtain ⟨c, hc, rfl⟩ := signs_at hy
  refine ⟨(Array.getElem?_eq_some_iff.mp hc).1, fun x' H' yy => ?_⟩
  obtain ⟨T, c', hc', rfl, hT, rfl⟩ := yy
  rw [hc] at hc'; cases hc'
  obtain ⟨st2, gr2⟩ := st.lay (o := .tup [.int ((i : Nat) : Int), .str ⟨#[c]⟩]) hT (by show 2 ≤ sizeLine; decide)
  refine ⟨_, gr2, st2, rep_tup upd_same (.cons ?_ (.cons (rep_str _) .nil))⟩
  rw [Nat.zero_add]
  exact rep_int _
theorem jok_signs {x : Str} (z : x.length ≤ sizeLine) : JOk K mg F ρ (signsD x, kT) (L2.Its x) := by
  have hl : (signsD x).length = x.cps.size := by simp [signsD]
  refine ⟨by rw [hl]; exact z, fun F1 ρ1 M1 H1 i s p st _ => ⟨fun d hd => ?_, fun hi => by rw [hl] at hi; exact hi⟩⟩
  obtain ⟨c, hc, rfl⟩ := signs_at hd
  refine ⟨(Array.getElem?_eq_some_iff.mp hc).1, fun x' H' yy => ?_⟩
  obtain ⟨rfl, c', hc', rfl⟩ := yy
  rw [hc] at hc'; cases hc'
  exact ⟨F1, Grow.refl _ _ _, st, rep_str _⟩
end
def mEnum (m : MA) : MI := fun Γ M => (m Γ M).bind fun ds M1 => match ds with
  | [.str x] => if x.length ≤ 16777216 then .ok (enumD 0 (signsD x), kT) M1 else .stuck
  | [.lst xs] => .ok (enumD 0 xs, kT) M1
  | [.scr xs] => .ok (enumD 0 xs, kT) M1
  | _ => .stuck
/-- a text walked, or what mIter walks -/
def mIterA (m : ME) : MI := fun Γ M => (m Γ M).bind fun d M1 => match d with
  | .str x => if x.length ≤ 16777216 then .ok (signsD x, kT) M1 else .stuck
  | d => match iterOf M1 d with
    | some p => .ok p M1
    | none => .stuck
section
variable {X : Cx} {W : WX} {e tg : Expr} {ms : MA} {m : ME} {p pos tpos : Pos} {elts : List Expr} {kk : Nat}
theorem si_enum (hg : Gl X "enumerate") (hm : X.mg "enumerate" = none) (ha : SA X W ms [e]) (hs : starEach [e] X.env = [(false, eval e X.env)] := by rfl) : SI X W (mEnum ms) (.Tuple elts kk tpos) (.Call (.Name "enumerate" p) [e] [] pos) := by
  refine ⟨fun pins s σ H R I ⟨F, ρ, Γ, M, g, st, h⟩ => ?_⟩
  unfold mEnum at h
  cases hm2 : ms Γ M with
  | stuck => rw [hm2] at h; exact h.elim
  | exc x M1 => rw [hm2] at h; exact (pi_enum hg hm ha hs).run pins s σ H R I ⟨F, ρ, Γ, M, g, st, by rw [hm2]; exact h⟩
  | ok ds M1 =>
    rw [hm2] at h
    simp only [Res.bind_ok] at h
    split at h
    · rename_i x
      obtain ⟨hz, h⟩ := iff_elim h
      refine (pi_enumS hg hm ha hs).run pins s σ H R I ⟨F, ρ, Γ, M, g, st, ?_⟩
      rw [hm2]
      intro F1 ρ1 H1 vs gr st1 rv
      obtain ⟨v, rfl, r1⟩ := reps1 rv
      exact ⟨x, by rw [r1.str], h _ _ _ _ gr st1 (jok_enumS (by rw [sizeLine_eq]; exact hz))⟩
    · rename_i xs
      refine (pi_enum hg hm ha hs).run pins s σ H R I ⟨F, ρ, Γ, M, g, st, ?_⟩
      rw [hm2]
      intro F1 ρ1 H1 vs gr st1 rv
      obtain ⟨v, rfl, r1⟩ := reps1 rv
      obtain ⟨a, us, rfl, q, rr⟩ := r1.lst
      have q' : SqL X.K F1 a us := SqL.of q
      exact ⟨a, us, rfl, st1.sub.sqL q', h _ _ _ _ gr st1 (jok_enum q' rr (st1.szL a us q'))⟩
    · rename_i xs
      refine (pi_enum hg hm ha hs).run pins s σ H R I ⟨F, ρ, Γ, M, g, st, ?_⟩
      rw [hm2]
      intro F1 ρ1 H1 vs gr st1 rv
      obtain ⟨v, rfl, r1⟩ := reps1 rv
      obtain ⟨a, us, rfl, q, rr⟩ := r1.scr
      exact ⟨a, us, rfl, st1.sub.sqL q, h _ _ _ _ gr st1 (jok_enum q rr (st1.szL a us q))⟩
    · exact h.elim
theorem si_any (ha : SE X W m e) : SI X W (mIterA m) tg e := by
  refine ⟨fun pins s σ H R I ⟨F, ρ, Γ, M, g, st, h⟩ => ?_⟩
  have key : (∃ x M1, m Γ M = .ok (.str x) M1 ∧ mIterA m Γ M = if x.length ≤ 16777216 then .ok (signsD x, kT) M1 else .stuck) ∨ mIterA m Γ M = mIter m Γ M := by
    unfold mIterA mIter
    cases m Γ M with
    | ok d M1 =>
      simp only [Res.bind_ok]
      cases d <;> first
        | exact .inr rfl
        | exact .inl ⟨_, _, rfl, rfl⟩
    | exc x M1 => exact .inr rfl
    | stuck => exact .inr rfl
  rcases key with ⟨x, M1, e1, e2⟩ | e2
  · rw [e2] at h
    refine (pi_str ha).run pins s σ H R I ⟨F, ρ, Γ, M, g, st, ?_⟩
    rw [e1]
    obtain ⟨hz, h⟩ := iff_elim h
    intro F1 ρ1 H1 v gr st1 rv
    exact ⟨x, rv.str, h _ _ _ _ gr st1 (jok_signs (by rw [sizeLine_eq]; exact hz))⟩
  · rw [e2] at h
    exact (si_seq ha).run pins s σ H R I ⟨F, ρ, Γ, M, g, st, h⟩
end
end DL

/-! {e for x in ..}, whole numbers -/
namespace DL
open PySem PySem.Spec PyProof.Rows L2
section
variable {X : Cx}
def tSc1 (w : World) (wi : TI) (g : TG) (tt : TT) (te : TE) (vs : List Nat) : TE := fun σ H Q => wi σ H fun J H1 => ∀ D, H1 D = none → ∃ W : Nat → Nat → Hp → Prop, (∃ m, W 0 m (upd H1 D (SetO w D (fun _ => false) 0))) ∧ ∀ i m H, W i m H →
  (J.stop i H ∧ Q (.ref D) H) ∨ (J.go i H ∧ ∃ Nx : Hp → Prop, (∀ H', Nx H' → ∃ m', m' < m ∧ W (i + 1) m' H') ∧ ∀ x H', J.yld i H x H' → g x (wipe σ vs) H' fun σ2 H2 => wipe σ2 vs = wipe σ vs ∧ tt σ2 H2 fun b H3 =>
    if b = true then te σ2 H3 fun y H7 => ∃ (c : Int) (S : Int → Bool) (n : Nat), y = .int c ∧ H7 D = some (SetO w D S n) ∧ n + 1 < scanBound ∧ Nx (upd H7 D (SetO w D (fun j => S j || decide (j = c)) (if S c = true then n else n + 1)))
    else Nx H3)
theorem sc1_core {pins : List (Addr × Obj)} {s : Shared} {σ : L2.St} {H : Hp} {Q : VK} {elt tg iter : Expr} {ifs : List Expr} {scope : Scope} {own : List (Str × Nat)} {pos pos' : Pos} {wi : TI} {g : TG} {tt : TT} {te : TE} {use : Option (Value → Sem Unit)} {Qf : Value → Shared → Prop}
    (hc : X.calm = true) (hN : X.N.Nodup) (I : L2.Inv X pins σ H s) (hi : PI X tg iter wi) (ok : BlkOk X.N X.env.scope scope own)
    (hg : ∀ (s : Shared) (H : Hp) (C : Addr) (cl : List (Str × Addr)) (fp : List Addr), PG (X.blk s H scope (compEnvC scope cl C X.env) fp) tg g) (ht : ∀ (s : Shared) (H : Hp) (C : Addr) (cl : List (Str × Addr)) (fp : List Addr), PTs (X.blk s H scope (compEnvC scope cl C X.env) fp) ifs tt)
    (he : ∀ (s : Shared) (H : Hp) (C : Addr) (cl : List (Str × Addr)) (fp : List Addr), PE (X.blk s H scope (compEnvC scope cl C X.env) fp) elt te) (hs : ∀ x, foldedSetIterable iter X.env x = pure x)
    (h : tSc1 X.w wi g tt te (own.map (·.2)) σ H Q)
    (hRR : ∀ D C s' m H', L2.Inv X pins σ H' s' → Q (.ref D) H' → s'.heap.Ns C m → FpOk X pins H' C → compPost (model X.prog X.w) X.A X.xe use Qf (.ref D) C (.ok .next) s') :
    wpAny (model X.prog X.w) X.A (comprehension (.SetComp elt [⟨tg, iter, ifs, 0⟩] scope pos) scope X.env pos' (newSet (.type "set")) false (eval iter X.env) use) Qf X.xe s := by
  have hfree : ∀ y ∈ scope.names, y.2 = .free → ∃ c, X.env.cells.lookup y.1 = some c := fun y hy e => by
    rcases ok.free y hy e with k | k
    · exact I.ok.has _ (.inl k)
    · exact I.ok.has _ (.inr k)
  refine wpAny_comprehension_free (use := use) rfl hs (closure_ok hfree) ok.kind (fun y hy e => by rw [ok.uniq y hy, e])
    (thn (hi.run pins s σ H _ I h) fun xv s1 hx => thn hx fun itv s2 h2 => ?_)
  obtain ⟨it, fp, tn, J, H2, e, I2, T, st2, f2, q⟩ := h2
  subst e
  refine PpSet.newSet_ok (newEnv_comp ?_)
  generalize hD : s2.heap.objs.size = D
  have hDn : H2 D = none := I2.hok.fresh (Nat.le_of_eq hD)
  obtain ⟨W, ⟨m0, w0⟩, turn⟩ := q D hDn
  -- the new list
  generalize hs3 : ({ s2 with heap := s2.heap.push { cls := .type "set", dict := none, data := .set #[] 0 (.fresh 0 0 (!X.w.params.followText "set-order")) } } : Shared) = s3
  have I3 : L2.Inv X pins σ (upd H2 D (SetO X.w D (fun _ => false) 0)) s3 := by
    rw [← hs3]
    refine I2.laid (t' := s2.toks) (fun b o e => Heap.get?_push_of_some _ e) (Nat.le_of_eq hD) ?_
    rw [← hD]
    exact setO_new (setR_fresh X.w)
  have h3 : s3.heap = s2.heap.push { cls := .type "set", dict := none, data := .set #[] 0 (.fresh 0 0 (!X.w.params.followText "set-order")) } := by rw [← hs3]
  have sz : ∀ b ∈ fp, b < s2.heap.objs.size := fun b hb => by
    obtain ⟨o, e, _⟩ := T.obj _ _ st2 b hb
    exact Heap.lt_size e
  have f3 : ∀ b ∈ fp, FpOk X pins (upd H2 D (SetO X.w D (fun _ => false) 0)) b ∧ b < s3.heap.objs.size := fun b hb => by
    have hlt := sz b hb
    refine ⟨⟨?_, (f2 b hb).2⟩, by rw [h3, Heap.size_push]; exact Nat.lt_succ_of_lt hlt⟩
    rw [upd_ne (by rw [← hD]; exact Nat.ne_of_lt hlt)]
    exact (f2 b hb).1
  have st3 : tn 0 s3.heap := T.keep _ _ _ st2 fun b _ o e => by rw [h3]; exact Heap.get?_push_of_some _ e
  have I4 := block_start I3 ok hN f3
  have pg := hg s3 (upd H2 D (SetO X.w D (fun _ => false) 0)) s3.heap.objs.size (cellsFrom (s3.heap.objs.size + 1) scope.names (cloFrom X.env.cells scope.names [])) fp
  have pt := ht s3 (upd H2 D (SetO X.w D (fun _ => false) 0)) s3.heap.objs.size (cellsFrom (s3.heap.objs.size + 1) scope.names (cloFrom X.env.cells scope.names [])) fp
  have pe := he s3 (upd H2 D (SetO X.w D (fun _ => false) 0)) s3.heap.objs.size (cellsFrom (s3.heap.objs.size + 1) scope.names (cloFrom X.env.cells scope.names [])) fp
  show codeAny _ _ (.compStart (.SetComp elt [⟨tg, iter, ifs, 0⟩] scope pos) 0 (.ref it) (.ref D) (compEnvC scope (cellsFrom (s3.heap.objs.size + 1) scope.names (cloFrom X.env.cells scope.names [])) s3.heap.objs.size X.env)) (compPost (model X.prog X.w) X.A X.xe use Qf (.ref D) s3.heap.objs.size) { s3 with heap := pushCells (s3.heap.push { cls := .type "dict", data := .dict #[] }) scope.names }
  have nfp : ∀ b ∈ fp, (upd H2 D (SetO X.w D (fun _ => false) 0)) b = none := fun b hb => (f3 b hb).1.1
  generalize hce : compEnvC scope (cellsFrom (s3.heap.objs.size + 1) scope.names (cloFrom X.env.cells scope.names [])) s3.heap.objs.size X.env = ce at I4 pg pt pe ⊢
  have cL : ce.locals = s3.heap.objs.size := by subst hce; rfl
  generalize hH3 : upd H2 D (SetO X.w D (fun _ => false) 0) = H3 at I3 I4 pg pt pe w0 nfp f3
  generalize hs4 : ({ s3 with heap := pushCells (s3.heap.push { cls := .type "dict", data := .dict #[] }) scope.names } : Shared) = s4 at I4 ⊢
  have st4 : tn 0 s4.heap := T.keep _ _ _ st3 fun b _ o e => by rw [← hs4]; exact pushCells_keeps _ _ _ _ (Heap.get?_push_of_some _ e)
  have stat : ∀ {σ' : L2.St} {H' : Hp} {s' : Shared}, L2.Inv (X.blk s3 H3 scope ce fp) [] σ' H' s' → (∀ b ∈ fp, H' b = none) → ∀ b ∈ fp, FpOk (X.blk s3 H3 scope ce fp) [] H' b := fun {σ' H' s'} I' hn b hb =>
    ⟨hn b hb, (I'.ok.exf b hb).1, I'.ok.exfs b hb, .inl hb, fun x c e => (I'.ok.exf b hb).2 x c e, fun p hp => absurd (show p ∈ ([] : List (Addr × Obj)) ++ [] from hp) (by simp)⟩
  have loop : codeAny (model X.prog X.w) X.A (.compLoop (.SetComp elt [⟨tg, iter, ifs, 0⟩] scope pos) 0 (.ref it) (.ref D) ce) (compPost (model X.prog X.w) X.A X.xe use Qf (.ref D) s3.heap.objs.size) s4 := by
    refine PpSet.compLoopS_any (fun n s' => ∃ i H', L2.Inv (X.blk s3 H3 scope ce fp) [] (wipe σ (own.map (·.2))) H' s' ∧ tn i s'.heap ∧ (∀ b ∈ fp, H' b = none) ∧ W i n H') ?_ m0 ⟨0, H3, I4, st4, nfp, w0⟩
    rintro n s5 ⟨i, H5, I5, st5, n5, w5⟩
    rcases turn i n H5 w5 with ⟨stop, qq⟩ | ⟨go, Nx, hNx, step⟩
    · have td := T.done (X.blk s3 H3 scope ce fp) rfl rfl rfl hc i [] s5 _ H5 (fun _ _ => False) I5 (stat I5 n5) st5 stop
      refine thnF td fun r s6 ⟨hr, I6⟩ => ?_
      subst hr
      -- back in the def's context
      have I7 : L2.Inv X pins σ H5 s6 := I3.call' (ch := fp) I6.os I6.base I6.hok I6.bare fun b hb => ⟨(f3 b hb).1.2.2.2.1, (f3 b hb).1.2.1, (f3 b hb).1.2.2.2.2.1, (f3 b hb).1.2.2.2.2.2⟩
      have nC : H5 s3.heap.objs.size = none := by
        have z : H5 ce.locals = none := I6.free
        rw [cL] at z
        exact z
      obtain ⟨m, hn, _⟩ := I6.loc
      have hn : s6.heap.Ns ce.locals m := hn
      rw [cL] at hn
      exact hRR D s3.heap.objs.size s6 m H5 I7 qq hn (I3.fpOk (Nat.le_refl _) nC)
    · have ti := T.item (X.blk s3 H3 scope ce fp) rfl rfl rfl hc i [] s5 _ H5 (fun _ _ => False) I5 (stat I5 n5) st5 go
      refine thnF ti fun r s6 ⟨u, hr, h6⟩ => ?_
      subst hr
      refine thnF h6 fun _ s7 ⟨x, H7, I7, r7, y7, st7, n7⟩ => ?_
      have I7' := I7.pinned (stat I7 n7) (T.obj _ _ st7)
      refine thnF (pg.run _ s7 _ H7 x u _ I7' r7 (step x H7 y7)) fun _ s8 ⟨σ8, H8, I8, hw8, q8⟩ => ?_
      refine thnF (pt.run _ s8 σ8 H8 _ I8 q8) fun b s9 ⟨H9, I9, q9⟩ => ?_
      -- the turn's end, from any slots that know what the block knew at its start
      have fin : ∀ {σ9 : L2.St} {s' : Shared} {H' : Hp}, L2.Inv (X.blk s3 H3 scope ce fp) ([] ++ pinsAt fp s7.heap) σ9 H' s' → (wipe σ (own.map (·.2))).length = σ9.length → (∀ (j : Nat) v, (wipe σ (own.map (·.2)))[j]? = some (some v) → σ9[j]? = some (some v)) → Nx H' →
          ∃ m, m < n ∧ ∃ i H', L2.Inv (X.blk s3 H3 scope ce fp) [] (wipe σ (own.map (·.2))) H' s' ∧ tn i s'.heap ∧ (∀ b ∈ fp, H' b = none) ∧ W i m H' := fun {σ9 s' H'} I' hl hk nx => by
        obtain ⟨m', hm, w'⟩ := hNx H' nx
        have pin' : ∀ b ∈ fp, ∀ o, s7.heap.get? b = some o → s'.heap.get? b = some o ∧ H' b = none := fun b hb o e =>
          let z := I'.pin (b, o) (List.mem_append_right _ (List.mem_append_right _ (mem_pinsAt hb e)))
          ⟨z.1, z.2.1⟩
        refine ⟨m', hm, i + 1, H', (I'.unpinned (pins := [])).weak hl hk, T.keep _ _ _ st7 fun b hb o e => (pin' b hb o e).1, fun b hb => ?_, w'⟩
        obtain ⟨o, e, _⟩ := T.obj _ _ st7 b hb
        exact (pin' b hb o e).2
      have hl8 : (wipe σ (own.map (·.2))).length = σ8.length := by rw [← hw8, wipe_length]
      have hk8 : ∀ (j : Nat) v, (wipe σ (own.map (·.2)))[j]? = some (some v) → σ8[j]? = some (some v) := fun j v e => by
        rw [← hw8] at e
        exact (wipe_some e).1
      cases b with
      | false =>
        simp only [Bool.false_eq_true, if_false] at q9 ⊢
        exact fin I9 hl8 hk8 q9
      | true =>
        simp only [if_true] at q9 ⊢
        refine thnF (pe.run _ s9 σ8 H9 _ I9 q9) fun z s17 hz => ?_
        obtain ⟨yv, H17, I17, r17, kk, S0, n0, ey, hD17, hz17, nx⟩ := hz
        subst ey
        exact addI_ok (X := X.blk s3 H3 scope ce fp) I17 hD17 hz17 r17 fun s18 I18 => fin I18 hl8 hk8 nx
  exact PpSet.codeAny_compStart_set loop (T.self X.A 0 _ _ _ st4 loop)
theorem pe_sc1 {elt tg iter : Expr} {ifs : List Expr} {scope : Scope} {own : List (Str × Nat)} {pos : Pos} {wi : TI} {g : TG} {tt : TT} {te : TE} (hc : X.calm = true) (hN : X.N.Nodup) (hi : PI X tg iter wi) (ok : BlkOk X.N X.env.scope scope own)
    (hg : ∀ (s : Shared) (H : Hp) (C : Addr) (cl : List (Str × Addr)) (fp : List Addr), PG (X.blk s H scope (compEnvC scope cl C X.env) fp) tg g) (ht : ∀ (s : Shared) (H : Hp) (C : Addr) (cl : List (Str × Addr)) (fp : List Addr), PTs (X.blk s H scope (compEnvC scope cl C X.env) fp) ifs tt)
    (he : ∀ (s : Shared) (H : Hp) (C : Addr) (cl : List (Str × Addr)) (fp : List Addr), PE (X.blk s H scope (compEnvC scope cl C X.env) fp) elt te) (hs : ∀ x, foldedSetIterable iter X.env x = pure x := by intro _; rfl) :
    PE X (.SetComp elt [⟨tg, iter, ifs, 0⟩] scope pos) (tSc1 X.w wi g tt te (own.map (·.2))) := by
  refine ⟨fun pins s σ H Q I h => ?_⟩
  rw [PpSet.eval_SetComp]
  refine sc1_core hc hN I hi ok hg ht he hs h fun D C s' m H' I' q hn f => ⟨m, hn, fun h'' sb => ?_⟩
  obtain ⟨f0, f1, f2, f3, f4, f5⟩ := f
  exact ⟨.ref D, H', I'.turned (t' := s'.toks) (fun b o hb e => (sb.2 b hb).trans e) f0 f1 f3 f4 f5, rfl, q⟩
end
end DL

/-! len({e for x in ..}), whole numbers -/
namespace DL
open PySem PySem.Spec PyProof.Rows L2
def rLenSet (w : World) : List V → Hp → VK → Prop := fun vs H Q => ∃ (a : Addr) (S : Int → Bool) (n : Nat) (ns : List Int), vs = [V.ref a] ∧ H a = some (SetO w a S n) ∧ (∀ j, S j = true ↔ j ∈ ns) ∧ Q (.int (sortD ns).length) H
theorem cr_lenSet {X : Cx} : CallR X (.builtin "len") (rLenSet X.w) := by
  intro pins s σ H xs us Q I r h
  obtain ⟨a, S, n, ns, rfl, ha, hS, q⟩ := h
  obtain ⟨u, rfl, ru⟩ := vals1 r
  obtain rfl : u = Value.ref a := ru
  obtain ⟨o, es, ep, t, ho, hx, hd, _, hnd, hm, hb, hf, hn, _⟩ := setO_get I ha
  have hp : (es.toList.map L2.keyOf).Perm (sortD ns) := by
    rw [List.perm_ext_iff_of_nodup hnd ((sortD_srt ns).imp (fun h => Int.ne_of_lt h))]
    intro k
    rw [← hm, hS, sortD_mem]
  have hl : es.size = (sortD ns).length := by
    have := hp.length_eq
    simpa using this
  have h63 : (es.size : Int) < 2 ^ 63 := by
    have h1 : scanBound ≤ 4611686018427387904 := by decide +kernel
    omega
  refine call_len_set ho hx hd hf h63 ?_
  refine ⟨.int (sortD ns).length, H, ?_, ⟨_, by rw [hl]⟩, q⟩
  exact (I.tok _).tok _
def finL (ys : List D) (M : Sto) : Res D := match intsOf ys with
  | some ns => if ns.length < 4000 then .ok (.int (sortD ns).length) M else .stuck
  | none => .stuck
theorem finL_elim {K : PySem.W.Frag} {mg : Str → Option Value} {β : Type} {ys : List D} {M : Sto} {R : Hp → List Addr → D → β → Prop} {W : XK} {F : Hp} {ρ : List Addr} {H : Hp} {C : Hp → List Addr → Sto → Hp → D → β → Prop}
    (h : AftK K mg R W (finL ys M) F ρ H C) : ∃ ns, intsOf ys = some ns ∧ ns.length < 4000 := by
  unfold finL at h
  split at h
  · exact ⟨_, by assumption, (iff_elim h).1⟩
  · exact h.elim
theorem ScAt.finL {w : World} {K : PySem.W.Frag} {mg : Str → Option Value} {F0 F : Hp} {ρ0 ρ : List Addr} {M : Sto} {H0 H : Hp} {p : Addr} {ds : List D} {W : XK} {Q : VK} (x : ScAt w K mg F0 ρ0 H0 p F ρ M H ds) (h : AftK K mg (Rep K mg) W (DL.finL ds M) F0 ρ0 H0 (fun _ _ _ H' _ v => Q v H')) : rLenSet w [.ref p] H Q := by
  obtain ⟨ns, S, n, h1, h2, h3, h4⟩ := x.hD
  obtain ⟨ns', w1, w2⟩ := finL_elim h
  rw [h1] at w1; cases w1
  unfold DL.finL at h
  rw [h1] at h
  dsimp only at h
  have h := (iff_elim h).2
  have g0 : Grow F0 ρ0 H0 F ρ H := ⟨x.f, x.r, x.fresh, x.keep, x.ff⟩
  exact ⟨p, S, n, ns, rfl, h2, h3, h _ _ _ _ g0 x.st (rep_int _)⟩
def mLenS (it : MI) (g : MG) (vs : List Nat) (t : MT) (e : ME) : ME := fun Γ M => (it Γ M).bind fun p M1 => (lcL g t e p.2 (dwipe Γ vs) p.1 M1).bind DL.finL
theorem sc1_imp {w : World} {K : PySem.W.Frag} {mg : Str → Option Value} {W : WX} {mi : MI} {gm : MG} {vs sl : List Nat} {t : MT} {e : ME} {σ : L2.St} {H : Hp} {Q : VK}
    (hs : ∀ i ∈ sl, i ∈ vs) (h : tD K mg W (mLenS mi gm vs t e) σ H Q) :
    tSc1 w (tI K mg W mi) (tG K mg sl gm) (tDt K mg W0 t) (tD K mg W0 e) vs σ H (fun v H1 => rLenSet w [v] H1 Q) := by
  obtain ⟨F, ρ, Γ, M, g, st, h⟩ := h
  refine ⟨F, ρ, Γ, M, g, st, h.bind.imp fun F1 ρ1 M1 H1 p J gr st1 hJ h1 => ?_⟩
  obtain ⟨ds, chk⟩ := p
  intro D nD
  refine ⟨fun i m' H' => m' = ds.length - i ∧ i ≤ ds.length ∧ ∃ F' ρ' M' da, ScAt w K mg F1 ρ1 H1 D F' ρ' M' H' da ∧
      AftK K mg (Rep K mg) (WE W σ) ((lcL gm t e chk (dwipe Γ vs) (ds.drop i) M').bind fun ys M2 => DL.finL (da ++ ys) M2) F1 ρ1 H1 (fun _ _ _ H' _ v => Q v H'),
    ⟨_, rfl, Nat.zero_le _, F1, ρ1, M1, [], .start st1 nD, by simpa using h1⟩, ?_⟩
  rintro i _ H2 ⟨rfl, hi, F2, ρ2, M2, da, L, h2⟩
  by_cases hlt : i < ds.length
  · right
    have hd : ds.drop i = ds[i] :: ds.drop (i + 1) := List.drop_eq_getElem_cons hlt
    rw [hd] at h2
    unfold lcL at h2
    split at h2
    · rename_i hk
      obtain ⟨go, step⟩ := (hJ.2 F2 ρ2 M2 H2 i L.f L.r L.st hk).1 ds[i] (by simp [hlt])
      refine ⟨go, _, fun H' n => ⟨_, (by show ds.length - (i + 1) < ds.length - i; omega), n⟩, fun x H3 y => ?_⟩
      obtain ⟨F3, gr3, st3, r3⟩ := step x H3 y
      have L3 := L.go gr3 st3
      have g3 : GOk K mg F3 ρ2 (dwipe Γ vs) (wipe σ vs) := ((g.grow gr).mono L3.f L3.r).wipe vs
      refine ⟨F3, ρ2, dwipe Γ vs, M2, ds[i], g3, st3, r3, ?_⟩
      cases hg : gm ds[i] (dwipe Γ vs) M2 with
      | exc x M3 => rw [hg] at h2; exact h2.elim
      | stuck => rw [hg] at h2; exact h2.elim
      | ok Γ4 M4 =>
        rw [hg] at h2
        simp only [noX_ok, Res.bind_ok] at h2
        intro F4 ρ4 H4 σ4 gr4 st4 g4 o4
        have L4 := L3.go gr4 st4
        refine ⟨wipe_only o4 hs, F4, ρ4, Γ4, M4, g4, st4, ?_⟩
        cases ht : t Γ4 M4 with
        | exc x M3 => rw [ht] at h2; exact h2.elim
        | stuck => rw [ht] at h2; exact h2.elim
        | ok b M5 =>
          rw [ht] at h2
          simp only [noX_ok, Res.bind_ok] at h2
          intro F5 ρ5 H5 _ gr5 st5 _
          have L5 := L4.go gr5 st5
          cases b with
          | false =>
            simp only [Bool.false_eq_true, if_false] at h2 ⊢
            exact ⟨trivial, hlt, F5, ρ5, M5, da, L5, h2⟩
          | true =>
            simp only [if_true] at h2 ⊢
            refine ⟨F5, ρ5, Γ4, M5, g4.grow gr5, st5, ?_⟩
            cases he : e Γ4 M5 with
            | exc x M3 => rw [he] at h2; exact h2.elim
            | stuck => rw [he] at h2; exact h2.elim
            | ok y M6 =>
              rw [he] at h2
              simp only [noX_ok, Res.bind_ok] at h2
              intro F6 ρ6 H6 v gr6 st6 r6
              have L6 := L5.go gr6 st6
              have assoc : ((lcL gm t e chk (dwipe Γ vs) (ds.drop (i + 1)) M6).bind fun ys M4 => .ok (y :: ys) M4).bind (fun ys M2 => DL.finL (da ++ ys) M2) = (lcL gm t e chk (dwipe Γ vs) (ds.drop (i + 1)) M6).bind fun ys M2 => DL.finL (da ++ [y] ++ ys) M2 := by
                cases lcL gm t e chk (dwipe Γ vs) (ds.drop (i + 1)) M6 with
                | ok ys M7 => simp
                | exc x M7 => rfl
                | stuck => rfl
              rw [assoc] at h2
              have hy : ∃ ns : List Int, ∃ c : Int, intsOf da = some ns ∧ y = .int c ∧ ns.length + 1 < 4000 := by
                cases hl : lcL gm t e chk (dwipe Γ vs) (ds.drop (i + 1)) M6 with
                | exc x M7 =>
                  exfalso
                  have noexc : ∀ (xs : List DL.D) (M : Sto) x M', lcL gm t e chk (dwipe Γ vs) xs M ≠ .exc x M' := by
                    intro xs
                    induction xs with
                    | nil => intro M x M' z; unfold lcL at z; split at z <;> cases z
                    | cons a xs ih =>
                      intro M x M' z
                      unfold lcL at z
                      split at z
                      · cases h1 : gm a (dwipe Γ vs) M with
                        | ok Γ1 N1 =>
                          rw [h1] at z
                          simp only [noX_ok, Res.bind_ok] at z
                          cases h2 : t Γ1 N1 with
                          | ok b N2 =>
                            rw [h2] at z
                            simp only [noX_ok, Res.bind_ok] at z
                            cases b with
                            | false => exact ih _ _ _ (by simpa using z)
                            | true =>
                              simp only [if_true] at z
                              cases h3 : e Γ1 N2 with
                              | ok yy N3 =>
                                rw [h3] at z
                                simp only [noX_ok, Res.bind_ok] at z
                                cases h4 : lcL gm t e chk (dwipe Γ vs) xs N3 with
                                | ok zs N4 => rw [h4] at z; cases z
                                | exc x2 N4 => exact ih _ _ _ h4
                                | stuck => rw [h4] at z; cases z
                              | exc x2 N3 => rw [h3] at z; cases z
                              | stuck => rw [h3] at z; cases z
                          | exc x2 N2 => rw [h2] at z; cases z
                          | stuck => rw [h2] at z; cases z
                        | exc x2 N1 => rw [h1] at z; cases z
                        | stuck => rw [h1] at z; cases z
                      · cases z
                  exact noexc _ _ _ _ hl
                | stuck => rw [hl] at h2; exact h2.elim
                | ok ys M7 =>
                  rw [hl] at h2
                  simp only [Res.bind_ok] at h2
                  obtain ⟨ns, w1, w2⟩ := finL_elim h2
                  obtain ⟨n1, n2, e1, e2, e3⟩ := intsOf_app w1
                  obtain ⟨n3, n4, e4, e5, e6⟩ := intsOf_app e1
                  subst e3 e6
                  cases y with
                  | int c =>
                    refine ⟨n3, c, e4, rfl, ?_⟩
                    have : n4 = [c] := by simpa [intsOf] using e5.symm
                    subst this
                    simp only [List.length_append, List.length_cons, List.length_nil] at w2
                    omega
                  | _ => simp [intsOf] at e5
              obtain ⟨ns, c, hns, rfl, hlen⟩ := hy
              obtain ⟨ns', S, n, q1, q2, q3, q4⟩ := L6.hD
              rw [hns] at q1; cases q1
              have hsb : 4096 ≤ scanBound := by decide +kernel
              exact ⟨c, S, n, r6.int, q2, by omega, trivial, hlt, F6, ρ6, M6, _, L6.push nD hns q2 q3 q4, h2⟩
    · exact h2.elim
  · left
    have e1 : i = ds.length := by omega
    subst e1
    rw [List.drop_length] at h2
    unfold lcL at h2
    split at h2
    · rename_i hk
      simp only [Res.bind_ok, List.append_nil] at h2
      exact ⟨(hJ.2 F2 ρ2 M2 H2 _ L.f L.r L.st hk).2 (Nat.le_refl _), L.finL h2⟩
    · exact h2.elim
section
variable {X : Cx} {W : WX} {elt tg iter : Expr} {ifs : List Expr} {scope : Scope} {own : List (Str × Nat)} {pos cpos p : Pos} {mi : MI} {gm : MG} {t : MT} {e : ME}
theorem se_lenS (hG : Gl X "len") (hM : X.mg "len" = none) (hc : X.calm = true) (hN : X.N.Nodup) (hi : SI X W mi tg iter) (ok : BlkOk X.N X.env.scope scope own) (hg : SG' X scope (own.map (·.2)) gm tg) (ht : ST' X scope t ifs) (he : SE' X scope e elt)
    (hs : ∀ x, foldedSetIterable iter X.env x = pure x := by intro _; rfl)
    (hst : starEach [.SetComp elt [⟨tg, iter, ifs, 0⟩] scope cpos] X.env = (false, eval (.SetComp elt [⟨tg, iter, ifs, 0⟩] scope cpos) X.env) :: starEach [] X.env := by rfl) (hpl : (backTo pos (starEach [] X.env)).any (·.1) = false := by rfl) :
    SE X W (mLenS mi gm (own.map (·.2)) t e) (.Call (.Name "len" p) [.SetComp elt [⟨tg, iter, ifs, 0⟩] scope cpos] [] pos) :=
  (pe_callB cr_lenSet hG hM (by decide +kernel) (pa_cons (pe_sc1 hc hN hi ok hg ht he hs) pa_nil hst) (by decide) (by decide) hst hpl).imp fun σ H Q h => sc1_imp (fun _ h => h) h
end
end DL

namespace DL
open PySem PySem.Spec PyProof.Rows L2
/-! what the new readings are -/
section
variable {Γ : DEnv} {M : Sto} {m ma mb md me mx mo mi mv : ME}
@[simp] theorem e_dget : mDGet md me Γ M = (md Γ M).bind fun d M1 => (me Γ M1).bind fun e M2 => fDGet d e M2 := rfl
@[simp] theorem e_dget2 : mDGet2 md me mx Γ M = (md Γ M).bind fun d M1 => if (dictOf M1 d).isSome = true then (me Γ M1).bind fun e M2 => (mx Γ M2).bind fun x M3 => fDGet2 d e x M3 else .stuck := rfl
def putS (d e x : D) (Γ : DEnv) (M : Sto) : RS := match putD M d e x with
  | some M4 => .nx Γ M4
  | none => .stuck
@[simp] theorem e_dput : mDPut md me mx Γ M = (mx Γ M).toS Γ fun x M1 => (md Γ M1).toS Γ fun d M2 => (me Γ M2).toS Γ fun e M3 => putS d e x Γ M3 := rfl
@[simp] theorem e_kget {tab : List (Str × Int)} : mKGet tab me mx Γ M = (me Γ M).bind fun d M1 => (mx Γ M1).bind fun y M2 => match d with
  | .str k => .ok (((tabGet tab k).map D.int).getD y) M2
  | _ => .stuck := rfl
def kIn (neg : Bool) (tab : List (Str × Int)) (d : D) (M : Sto) : Res Bool := match d with
  | .str k => .ok (if neg = true then (tabGet tab k).isNone else (tabGet tab k).isSome) M
  | _ => .stuck
@[simp] theorem e_kin {neg : Bool} {tab : List (Str × Int)} : mKIn neg tab me Γ M = (me Γ M).bind fun d M1 => kIn neg tab d M1 := rfl
@[simp] theorem kIn_str {neg : Bool} {tab : List (Str × Int)} {k : Str} : kIn neg tab (.str k) M = .ok (if neg = true then (tabGet tab k).isNone else (tabGet tab k).isSome) M := eqn rfl
theorem e_aug {i : Nat} {f : D → D → Sto → Res D} {d : D} (h : Γ[i]? = some (some d)) : mAug i f m Γ M = (m Γ M).toS Γ fun e M1 => (f d e M1).toS Γ fun y M2 => .nx (Γ.set i (some y)) M2 := by
  unfold mAug
  rw [h]
@[simp] theorem e_fstr {ms : List ME} : mFstr ms Γ M = mJs ms Str.empty Γ M := rfl
@[simp] theorem js_nil {acc : Str} : mJs [] acc Γ M = .ok (.str acc) M := rfl
def jsT (ms : List ME) (acc : Str) (Γ : DEnv) (d : D) (M : Sto) : Res D := match d with
  | .str y => if (acc ++ y).length ≤ 16777216 then mJs ms (acc ++ y) Γ M else .stuck
  | _ => .stuck
@[simp] theorem js_cons {ms : List ME} {acc : Str} : mJs (m :: ms) acc Γ M = (m Γ M).bind fun d M1 => jsT ms acc Γ d M1 := rfl
@[simp] theorem jsT_str {ms : List ME} {acc y : Str} : jsT ms acc Γ (.str y) M = if (acc ++ y).length ≤ 16777216 then mJs ms (acc ++ y) Γ M else .stuck := rfl
def fvT (d : D) (M : Sto) : Res D := match d with
  | .str y => if y.length ≤ 16777216 then .ok (.str y) M else .stuck
  | .int i => if i.natAbs.log2 < 1920 then .ok (.str (toString i)) M else .stuck
  | _ => .stuck
@[simp] theorem e_fv : mFv m Γ M = (m Γ M).bind fun d M1 => fvT d M1 := rfl
@[simp] theorem fvT_str {y : Str} : fvT (.str y) M = if y.length ≤ 16777216 then .ok (.str y) M else .stuck := rfl
def enumT (ds : List D) (M : Sto) : Res (List D × (Sto → Bool)) := match ds with
  | [.str x] => if x.length ≤ 16777216 then .ok (enumD 0 (signsD x), kT) M else .stuck
  | [.lst xs] => .ok (enumD 0 xs, kT) M
  | [.scr xs] => .ok (enumD 0 xs, kT) M
  | _ => .stuck
@[simp] theorem e_enum {ms : MA} : mEnum ms Γ M = (ms Γ M).bind fun ds M1 => enumT ds M1 := rfl
@[simp] theorem e_lenS {it : MI} {g : MG} {vs : List Nat} {t : MT} {e : ME} : mLenS it g vs t e Γ M = (it Γ M).bind fun p M1 => (lcL g t e p.2 (dwipe Γ vs) p.1 M1).bind DL.finL := rfl
def dictT (ps : List (D × D)) (M : Sto) : Res D := match keysOf (ps.map (·.1)) with
  | some ks => if ks.Nodup ∧ ks.length ≤ 15 then .ok (.ref M.length) (M ++ [.dk ks (ps.map (·.2))]) else .stuck
  | none => .stuck
@[simp] theorem e_dict {ms : List (ME × ME)} : mDict ms Γ M = (mPairs ms Γ M).bind fun ps M1 => dictT ps M1 := rfl
@[simp] theorem pairs_nil : mPairs [] Γ M = .ok [] M := rfl
@[simp] theorem pairs_cons {p : ME × ME} {ms : List (ME × ME)} : mPairs (p :: ms) Γ M = (p.1 Γ M).bind fun d M1 => (p.2 Γ M1).bind fun e M2 => (mPairs ms Γ M2).bind fun ps M3 => .ok ((d, e) :: ps) M3 := rfl
@[simp] theorem iadd_i {i j : Int} : fIAdd (.int i) (.int j) M = .ok (.int (i + j)) M := eqn rfl
@[simp] theorem xor_i {i j : Int} : fXor (.int i) (.int j) M = .ok (.int (Builtin.bitXor i j)) M := eqn rfl
theorem all_bools {bs : List Bool} : fAll [.lst (bs.map D.bl)] M = .ok (.bl (bs.all id)) M := by
  unfold fAll
  show (match (some (bs.map D.bl)).bind boolsOf with | some bs => _ | none => _) = _
  simp [boolsOf_map]
theorem str_int {i : Int} (h : i.natAbs.log2 < 1920) : fStr [.int i] M = .ok (.str (toString i)) M := by
  unfold fStr
  exact if_pos h
@[simp] theorem str_str {x : Str} : fStr [.str x] M = .ok (.str x) M := eqn rfl
@[simp] theorem pre_str {x : Str} : preS M (.str x) = true := eqn rfl
theorem join_lst {a : Str} {ys : List Str} (h : (ys.map (·.length)).sum + ys.length * a.length ≤ 16777216) : fJoin (.str a) [.lst (ys.map D.str)] M = .ok (.str (Txt.join a ys)) M := by
  unfold fJoin
  show (match (some (ys.map D.str)).bind strsOf with | some ys => _ | none => _) = _
  simp [strsOf_map, h]
theorem split_str {a b : Str} (h0 : (b.length == 0) = false) (h : a.length + 2 ≤ 16777216) : fSplit (.str a) [.str b] M = .ok (.lst ((Txt.split a b).map D.str)) M := by
  unfold fSplit
  exact if_pos ⟨h0, h⟩
end
end DL

namespace K83
open PySem PySem.Spec PyProof.Rows L2 DL
/-! ### the program's defs by places -/
def top (i : Nat) : Stmt := PySem.Challenge.pw_crowdsay_k83_sentences_written_and_read.main.body.getD i (.Pass ⟨0, 0, 0, 0⟩)
abbrev s_many_of : Stmt := (top 10)
abbrev s_atoms_of : Stmt := (top 11)
abbrev s_show_sentence : Stmt := (top 12)
abbrev s_number_in : Stmt := (top 13)
abbrev s_simple_in : Stmt := (top 14)
abbrev s_places_between : Stmt := (top 15)
abbrev s_both_in : Stmt := (top 16)
abbrev s_sentence_in : Stmt := (top 17)
abbrev s_read_sentence : Stmt := (top 18)
abbrev s_common_part : Stmt := (top 20)
abbrev s_wheel_of : Stmt := (top 22)
abbrev s_breaking : Stmt := (top 23)
abbrev s_sought_by : Stmt := (top 24)
abbrev s_Put_init : Stmt := (inClass (top 25) 0)
abbrev s_Put_weights_in : Stmt := (inClass (top 25) 1)
abbrev s_Put_into : Stmt := (inClass (top 25) 2)
abbrev s_Put_is_number : Stmt := (inClass (top 25) 3)
abbrev s_puts_at : Stmt := (top 26)
abbrev s_any_of : Stmt := (top 27)
abbrev s_plainly_some : Stmt := (top 28)
abbrev s_plainly : Stmt := (top 29)
abbrev s__law_mix : Stmt := (top 31)
abbrev s__law_jar : Stmt := (top 32)
abbrev s__law_pick : Stmt := (top 33)
abbrev s__law_simple : Stmt := (top 35)
abbrev s__law_sentence : Stmt := (top 36)
abbrev s__law_written : Stmt := (top 37)
abbrev s__law_same : Stmt := (top 38)
abbrev s_law : Stmt := (top 39)
abbrev gd_Put_init_3 : List D → List D → List D := fun xs _ => xs ++ [.int (1)]
theorem gl_Put_init_3 : ∀ ds es : List D, ds.length = 3 → es.length = 0 → (gd_Put_init_3 ds es).length = 4 := by intro ds es h1 h2; simp [h1, h2]
abbrev gd_Put_init_3_by : List D → List D → List D := fun xs es => xs ++ es
theorem gl_Put_init_3_by : ∀ ds es : List D, ds.length = 3 → es.length = 1 → (gd_Put_init_3_by ds es).length = 4 := by intro ds es h1 h2; simp [h1, h2]
abbrev gd_Put_into_2 : List D → List D → List D := fun xs _ => xs
theorem gl_Put_into_2 : ∀ ds es : List D, ds.length = 2 → es.length = 0 → (gd_Put_into_2 ds es).length = 2 := by intro ds es h1 h2; simp [h1, h2]
abbrev gd_Put_is_number_1 : List D → List D → List D := fun xs _ => xs
theorem gl_Put_is_number_1 : ∀ ds es : List D, ds.length = 1 → es.length = 0 → (gd_Put_is_number_1 ds es).length = 1 := by intro ds es h1 h2; simp [h1, h2]
abbrev gd_Put_weights_in_2 : List D → List D → List D := fun xs _ => xs
theorem gl_Put_weights_in_2 : ∀ ds es : List D, ds.length = 2 → es.length = 0 → (gd_Put_weights_in_2 ds es).length = 2 := by intro ds es h1 h2; simp [h1, h2]
abbrev gd__law_jar_1 : List D → List D → List D := fun xs _ => xs
theorem gl__law_jar_1 : ∀ ds es : List D, ds.length = 1 → es.length = 0 → (gd__law_jar_1 ds es).length = 1 := by intro ds es h1 h2; simp [h1, h2]
abbrev gd__law_mix_1 : List D → List D → List D := fun xs _ => xs
theorem gl__law_mix_1 : ∀ ds es : List D, ds.length = 1 → es.length = 0 → (gd__law_mix_1 ds es).length = 1 := by intro ds es h1 h2; simp [h1, h2]
abbrev gd__law_pick_2 : List D → List D → List D := fun xs _ => xs
theorem gl__law_pick_2 : ∀ ds es : List D, ds.length = 2 → es.length = 0 → (gd__law_pick_2 ds es).length = 2 := by intro ds es h1 h2; simp [h1, h2]
abbrev gd__law_same_2 : List D → List D → List D := fun xs _ => xs
theorem gl__law_same_2 : ∀ ds es : List D, ds.length = 2 → es.length = 0 → (gd__law_same_2 ds es).length = 2 := by intro ds es h1 h2; simp [h1, h2]
abbrev gd__law_sentence_3 : List D → List D → List D := fun xs _ => xs
theorem gl__law_sentence_3 : ∀ ds es : List D, ds.length = 3 → es.length = 0 → (gd__law_sentence_3 ds es).length = 3 := by intro ds es h1 h2; simp [h1, h2]
abbrev gd__law_simple_2 : List D → List D → List D := fun xs _ => xs
theorem gl__law_simple_2 : ∀ ds es : List D, ds.length = 2 → es.length = 0 → (gd__law_simple_2 ds es).length = 2 := by intro ds es h1 h2; simp [h1, h2]
abbrev gd__law_written_1 : List D → List D → List D := fun xs _ => xs
theorem gl__law_written_1 : ∀ ds es : List D, ds.length = 1 → es.length = 0 → (gd__law_written_1 ds es).length = 1 := by intro ds es h1 h2; simp [h1, h2]
abbrev gd_any_of_1 : List D → List D → List D := fun xs _ => xs
theorem gl_any_of_1 : ∀ ds es : List D, ds.length = 1 → es.length = 0 → (gd_any_of_1 ds es).length = 1 := by intro ds es h1 h2; simp [h1, h2]
abbrev gd_atoms_of_1 : List D → List D → List D := fun xs _ => xs
theorem gl_atoms_of_1 : ∀ ds es : List D, ds.length = 1 → es.length = 0 → (gd_atoms_of_1 ds es).length = 1 := by intro ds es h1 h2; simp [h1, h2]
abbrev gd_both_in_2 : List D → List D → List D := fun xs _ => xs
theorem gl_both_in_2 : ∀ ds es : List D, ds.length = 2 → es.length = 0 → (gd_both_in_2 ds es).length = 2 := by intro ds es h1 h2; simp [h1, h2]
abbrev gd_breaking_1 : List D → List D → List D := fun xs _ => xs
theorem gl_breaking_1 : ∀ ds es : List D, ds.length = 1 → es.length = 0 → (gd_breaking_1 ds es).length = 1 := by intro ds es h1 h2; simp [h1, h2]
abbrev gd_common_part_2 : List D → List D → List D := fun xs _ => xs
theorem gl_common_part_2 : ∀ ds es : List D, ds.length = 2 → es.length = 0 → (gd_common_part_2 ds es).length = 2 := by intro ds es h1 h2; simp [h1, h2]
abbrev gd_many_of_1 : List D → List D → List D := fun xs _ => xs
theorem gl_many_of_1 : ∀ ds es : List D, ds.length = 1 → es.length = 0 → (gd_many_of_1 ds es).length = 1 := by intro ds es h1 h2; simp [h1, h2]
abbrev gd_number_in_3 : List D → List D → List D := fun xs _ => xs
theorem gl_number_in_3 : ∀ ds es : List D, ds.length = 3 → es.length = 0 → (gd_number_in_3 ds es).length = 3 := by intro ds es h1 h2; simp [h1, h2]
abbrev gd_places_between_1 : List D → List D → List D := fun xs _ => xs
theorem gl_places_between_1 : ∀ ds es : List D, ds.length = 1 → es.length = 0 → (gd_places_between_1 ds es).length = 1 := by intro ds es h1 h2; simp [h1, h2]
abbrev gd_plainly_1 : List D → List D → List D := fun xs _ => xs
theorem gl_plainly_1 : ∀ ds es : List D, ds.length = 1 → es.length = 0 → (gd_plainly_1 ds es).length = 1 := by intro ds es h1 h2; simp [h1, h2]
abbrev gd_plainly_some_1 : List D → List D → List D := fun xs _ => xs
theorem gl_plainly_some_1 : ∀ ds es : List D, ds.length = 1 → es.length = 0 → (gd_plainly_some_1 ds es).length = 1 := by intro ds es h1 h2; simp [h1, h2]
abbrev gd_puts_at_2 : List D → List D → List D := fun xs _ => xs
theorem gl_puts_at_2 : ∀ ds es : List D, ds.length = 2 → es.length = 0 → (gd_puts_at_2 ds es).length = 2 := by intro ds es h1 h2; simp [h1, h2]
abbrev gd_read_sentence_1 : List D → List D → List D := fun xs _ => xs
theorem gl_read_sentence_1 : ∀ ds es : List D, ds.length = 1 → es.length = 0 → (gd_read_sentence_1 ds es).length = 1 := by intro ds es h1 h2; simp [h1, h2]
abbrev gd_sentence_in_2 : List D → List D → List D := fun xs _ => xs
theorem gl_sentence_in_2 : ∀ ds es : List D, ds.length = 2 → es.length = 0 → (gd_sentence_in_2 ds es).length = 2 := by intro ds es h1 h2; simp [h1, h2]
abbrev gd_show_sentence_1 : List D → List D → List D := fun xs _ => xs
theorem gl_show_sentence_1 : ∀ ds es : List D, ds.length = 1 → es.length = 0 → (gd_show_sentence_1 ds es).length = 1 := by intro ds es h1 h2; simp [h1, h2]
abbrev gd_simple_in_1 : List D → List D → List D := fun xs _ => xs
theorem gl_simple_in_1 : ∀ ds es : List D, ds.length = 1 → es.length = 0 → (gd_simple_in_1 ds es).length = 1 := by intro ds es h1 h2; simp [h1, h2]
abbrev gd_sought_by_1 : List D → List D → List D := fun xs _ => xs
theorem gl_sought_by_1 : ∀ ds es : List D, ds.length = 1 → es.length = 0 → (gd_sought_by_1 ds es).length = 1 := by intro ds es h1 h2; simp [h1, h2]
abbrev gd_wheel_of_1 : List D → List D → List D := fun xs _ => xs
theorem gl_wheel_of_1 : ∀ ds es : List D, ds.length = 1 → es.length = 0 → (gd_wheel_of_1 ds es).length = 1 := by intro ds es h1 h2; simp [h1, h2]
def B_many_of : MS := mSeq (mWhile fuel (mCmpT fNotIn (mBin fIx (mVar 0) (mC (.int 0))) (mTup (mCons (mC (.str "least")) (mCons (mC (.str "rest")) (mNil))))) (mAsg (mBin fIx (mVar 0) (mC (.int 1))) (mGN 0))) <| mRet (mB fLen (mCons (mBin fIx (mVar 0) (mC (.int 1))) (mNil)))
def S_many_of : Nat → Fn
  | 0 => fun _ _ => .stuck
  | 1 => fun _ _ => .stuck
  | k + 2 => mDef 1 (B_many_of )
theorem S_many_of_eq (k : Nat) : S_many_of (k + 2) = mDef 1 (B_many_of ) := by rfl
def B_atoms_of (f_atoms_of : Fn) : MS := mSeq (mIfS (mCmpT fIn (mBin fIx (mVar 0) (mC (.int 0))) (mTup (mCons (mC (.str "least")) (mCons (mC (.str "rest")) (mNil))))) (mRet (mLst (mCons (mVar 0) (mNil)))) (mPass)) <| mRet (mLc2 (mIter (mSl (mVar 0) (mPart (mC (.int 1))) (mNoPart))) (mGN 1) [1, 2] (mYes) (mIter (mCall 1 0 f_atoms_of gd_atoms_of_1 (mCons (mVar 1) (mNil)) (mNil))) (mGN 2) [2] (mYes) (mVar 2))
def S_atoms_of : Nat → Fn
  | 0 => fun _ _ => .stuck
  | 1 => fun _ _ => .stuck
  | k + 2 => mDef 3 (B_atoms_of (S_atoms_of (k + 1)))
theorem S_atoms_of_eq (k : Nat) : S_atoms_of (k + 2) = mDef 3 (B_atoms_of (S_atoms_of (k + 1))) := by rfl
def B_show_sentence (f_show_sentence : Fn) : MS := mSeq (mAsg (mVar 0) (mGStar 2 1 (mGCons (mGN 1) (mGCons (mGN 2) (mGNil))))) <| mSeq (mIfS (mKIn false [("least", 2), ("rest", 3)] (mVar 1)) (mSeq (mAsg (mVar 2) (mGStar 2 1 (mGCons (mGN 3) (mGCons (mGN 4) (mGNil))))) <| mRet (mMt preS fJoin (mC (.str " ")) (mCons (mBin fAdd (mLst (mCons (mVar 1) (mCons (mMt preS fJoin (mC (.str ",")) (mCons (mLc (mIter (mVar 3)) (mGN 7) [7] (mYes) (mB fStr (mCons (mVar 7) (mNil)))) (mNil))) (mNil)))) (mLc (mIter (mVar 4)) (mGN 8) [8] (mYes) (mB fStr (mCons (mVar 8) (mNil))))) (mNil)))) (mPass)) <| mSeq (mIfS (mCmpT fEq (mVar 1) (mC (.str "not"))) (mRet (mBin fAdd (mC (.str "not ")) (mCall 1 0 f_show_sentence gd_show_sentence_1 (mCons (mBin fIx (mVar 2) (mC (.int 0))) (mNil)) (mNil)))) (mPass)) <| mSeq (mAsg (mVar 2) (mGSeq 2 (mGCons (mGN 5) (mGCons (mGN 6) (mGNil))))) <| mRet (mFstr ((mC (.str "(")) :: (mFv (mCall 1 0 f_show_sentence gd_show_sentence_1 (mCons (mVar 5) (mNil)) (mNil))) :: (mC (.str " ")) :: (mFv (mVar 1)) :: (mC (.str " ")) :: (mFv (mCall 1 0 f_show_sentence gd_show_sentence_1 (mCons (mVar 6) (mNil)) (mNil))) :: (mC (.str ")")) :: []))
def S_show_sentence : Nat → Fn
  | 0 => fun _ _ => .stuck
  | 1 => fun _ _ => .stuck
  | k + 2 => mDef 9 (B_show_sentence (S_show_sentence (k + 1)))
theorem S_show_sentence_eq (k : Nat) : S_show_sentence (k + 2) = mDef 9 (B_show_sentence (S_show_sentence (k + 1))) := by rfl
def B_number_in : MS := mSeq (mAsg (mLc (mRng2 (mCons (mVar 1) (mCons (mBin fAdd (mVar 2) (mC (.int 1))) (mNil)))) (mGN 4) [4] (mCmpT fEq (mB fStr (mCons (mVar 4) (mNil))) (mVar 0)) (mVar 4)) (mGN 3)) <| mRet (mIf (mCmpT fNe (mVar 3) (mLst (mNil))) (mBin fIx (mVar 3) (mC (.int 0))) (mC .non))
def S_number_in : Nat → Fn
  | 0 => fun _ _ => .stuck
  | 1 => fun _ _ => .stuck
  | k + 2 => mDef 5 (B_number_in )
theorem S_number_in_eq (k : Nat) : S_number_in (k + 2) = mDef 5 (B_number_in ) := by rfl
def B_simple_in (f_number_in : Fn) : MS := mSeq (mAsg (mMt preS fSplit (mVar 0) (mCons (mC (.str " ")) (mNil))) (mGStar 2 1 (mGCons (mGN 1) (mGCons (mGN 2) (mGNil))))) <| mSeq (mIfS (mOrT (mCmpT fEq (mVar 2) (mLst (mNil))) (mCmpT fNe (mKGet [("least", 2), ("rest", 3)] (mVar 1) (mC (.int 0))) (mB fLen (mCons (mVar 2) (mNil))))) (mRet (mC .non)) (mPass)) <| mSeq (mAsg (mB fTuple (mCons (mLc (mIter (mMt preS fSplit (mBin fIx (mVar 2) (mC (.int 0))) (mCons (mC (.str ",")) (mNil)))) (mGN 7) [7] (mYes) (mCall 3 0 f_number_in gd_number_in_3 (mCons (mVar 7) (mCons (mUn fNeg (mC (.int 3))) (mCons (mC (.int 3)) (mNil)))) (mNil))) (mNil))) (mGN 3)) <| mSeq (mIfS (mOrT (mCmpT fGt (mB fLen (mCons (mVar 3) (mNil))) (mC (.int 3))) (mCmpT fIn (mC .non) (mVar 3))) (mRet (mC .non)) (mPass)) <| mSeq (mIfS (mCmpT fEq (mVar 1) (mC (.str "least"))) (mSeq (mAsg (mCall 3 0 f_number_in gd_number_in_3 (mCons (mBin fIx (mVar 2) (mC (.int 1))) (mCons (mUn fNeg (mC (.int 4))) (mCons (mC (.int 4)) (mNil)))) (mNil)) (mGN 4)) <| mRet (mIf (mCmpT fIs (mVar 4) (mC .non)) (mC .non) (mTup (mCons (mVar 1) (mCons (mVar 3) (mCons (mVar 4) (mNil))))))) (mPass)) <| mSeq (mAsg (mCall 3 0 f_number_in gd_number_in_3 (mCons (mBin fIx (mVar 2) (mC (.int 1))) (mCons (mC (.int 2)) (mCons (mC (.int 5)) (mNil)))) (mNil)) (mGN 5)) <| mSeq (mAsg (mIf (mCmpT fIs (mVar 5) (mC .non)) (mC .non) (mCall 3 0 f_number_in gd_number_in_3 (mCons (mBin fIx (mVar 2) (mC (.int 2))) (mCons (mC (.int 0)) (mCons (mBin fSub (mVar 5) (mC (.int 1))) (mNil)))) (mNil))) (mGN 6)) <| mRet (mIf (mCmpT fIs (mVar 6) (mC .non)) (mC .non) (mTup (mCons (mVar 1) (mCons (mVar 3) (mCons (mVar 5) (mCons (mVar 6) (mNil)))))))
def S_simple_in : Nat → Fn
  | 0 => fun _ _ => .stuck
  | 1 => fun _ _ => .stuck
  | k + 2 => mDef 8 (B_simple_in (S_number_in (k + 1)))
theorem S_simple_in_eq (k : Nat) : S_simple_in (k + 2) = mDef 8 (B_simple_in (S_number_in (k + 1))) := by rfl
def B_places_between : MS := mSeq (mAsg (mLstM (mNil)) (mGN 1)) <| mSeq (mAsg (mC (.int 0)) (mGN 2)) <| mSeq (mFor (mEnum (mCons (mVar 0) (mNil))) (mGSeq 2 (mGCons (mGN 3) (mGCons (mGN 4) (mGNil)))) (mSeq (mAug 2 fIAdd (mKGet [("(", 1), (")", -1)] (mVar 4) (mC (.int 0)))) <| mFor (mIter (mTup (mCons (mC (.str "and")) (mCons (mC (.str "or")) (mNil))))) (mGN 5) (mIfS (mAndT (mCmpT fEq (mVar 2) (mC (.int 0))) (mCmpT fEq (mSl (mVar 0) (mPart (mVar 3)) (mPart (mBin fAdd (mBin fAdd (mVar 3) (mB fLen (mCons (mVar 5) (mNil)))) (mC (.int 2))))) (mBin fAdd (mBin fAdd (mC (.str " ")) (mVar 5)) (mC (.str " "))))) (mExpr (mMt preL fAppend (mVar 1) (mCons (mTup (mCons (mVar 3) (mCons (mVar 5) (mNil)))) (mNil)))) (mPass)))) <| mRet (mFrz (mVar 1))
def S_places_between : Nat → Fn
  | 0 => fun _ _ => .stuck
  | 1 => fun _ _ => .stuck
  | k + 2 => mDef 6 (B_places_between )
theorem S_places_between_eq (k : Nat) : S_places_between (k + 2) = mDef 6 (B_places_between ) := by rfl
def B_both_in (f_places_between f_sentence_in : Fn) : MS := mSeq (mAsg (mCall 1 0 f_places_between gd_places_between_1 (mCons (mVar 0) (mNil)) (mNil)) (mGN 2)) <| mSeq (mIfS (mCmpT fNe (mB fLen (mCons (mVar 2) (mNil))) (mC (.int 1))) (mRet (mC .non)) (mPass)) <| mSeq (mAsg (mBin fIx (mVar 2) (mC (.int 0))) (mGSeq 2 (mGCons (mGN 3) (mGCons (mGN 4) (mGNil))))) <| mSeq (mAsg (mCall 2 0 f_sentence_in gd_sentence_in_2 (mCons (mSl (mVar 0) (mNoPart) (mPart (mVar 3))) (mCons (mBin fAdd (mVar 1) (mC (.int 1))) (mNil))) (mNil)) (mGN 5)) <| mSeq (mAsg (mCall 2 0 f_sentence_in gd_sentence_in_2 (mCons (mSl (mVar 0) (mPart (mBin fAdd (mBin fAdd (mVar 3) (mB fLen (mCons (mVar 4) (mNil)))) (mC (.int 2)))) (mNoPart)) (mCons (mBin fAdd (mVar 1) (mC (.int 1))) (mNil))) (mNil)) (mGN 6)) <| mRet (mIf (mOrT (mCmpT fIs (mVar 5) (mC .non)) (mCmpT fIs (mVar 6) (mC .non))) (mC .non) (mTup (mCons (mVar 4) (mCons (mVar 5) (mCons (mVar 6) (mNil))))))
def B_sentence_in (f_sentence_in f_both_in f_simple_in : Fn) : MS := mSeq (mIfS (mCmpT fGt (mVar 1) (mC (.int 2))) (mRet (mC .non)) (mPass)) <| mSeq (mIfS (mCmpT fEq (mSl (mVar 0) (mNoPart) (mPart (mC (.int 4)))) (mC (.str "not "))) (mSeq (mAsg (mCall 2 0 f_sentence_in gd_sentence_in_2 (mCons (mSl (mVar 0) (mPart (mC (.int 4))) (mNoPart)) (mCons (mBin fAdd (mVar 1) (mC (.int 1))) (mNil))) (mNil)) (mGN 2)) <| mRet (mIf (mCmpT fIs (mVar 2) (mC .non)) (mC .non) (mTup (mCons (mC (.str "not")) (mCons (mVar 2) (mNil)))))) (mPass)) <| mSeq (mIfS (mAndT (mCmpT fEq (mSl (mVar 0) (mNoPart) (mPart (mC (.int 1)))) (mC (.str "("))) (mCmpT fEq (mSl (mVar 0) (mPart (mUn fNeg (mC (.int 1)))) (mNoPart)) (mC (.str ")")))) (mRet (mCall 2 0 f_both_in gd_both_in_2 (mCons (mSl (mVar 0) (mPart (mC (.int 1))) (mPart (mUn fNeg (mC (.int 1))))) (mCons (mVar 1) (mNil))) (mNil))) (mPass)) <| mRet (mCall 1 0 f_simple_in gd_simple_in_1 (mCons (mVar 0) (mNil)) (mNil))
mutual
def S_both_in : Nat → Fn
  | 0 => fun _ _ => .stuck
  | 1 => fun _ _ => .stuck
  | k + 2 => mDef 7 (B_both_in (S_places_between (k + 1)) (S_sentence_in (k + 1)))
def S_sentence_in : Nat → Fn
  | 0 => fun _ _ => .stuck
  | 1 => fun _ _ => .stuck
  | k + 2 => mDef 3 (B_sentence_in (S_sentence_in (k + 1)) (S_both_in (k + 1)) (S_simple_in (k + 1)))
end
theorem S_both_in_eq (k : Nat) : S_both_in (k + 2) = mDef 7 (B_both_in (S_places_between (k + 1)) (S_sentence_in (k + 1))) := by rfl
theorem S_sentence_in_eq (k : Nat) : S_sentence_in (k + 2) = mDef 3 (B_sentence_in (S_sentence_in (k + 1)) (S_both_in (k + 1)) (S_simple_in (k + 1))) := by rfl
def B_read_sentence (f_sentence_in f_atoms_of : Fn) : MS := mSeq (mAsg (mCall 2 0 f_sentence_in gd_sentence_in_2 (mCons (mVar 0) (mCons (mC (.int 0)) (mNil))) (mNil)) (mGN 1)) <| mSeq (mIfS (mOrT (mCmpT fIs (mVar 1) (mC .non)) (mCmpT fGt (mLenS (mIter (mCall 1 0 f_atoms_of gd_atoms_of_1 (mCons (mVar 1) (mNil)) (mNil))) (mGN 2) [2] (mYes) (mB fLen (mCons (mBin fIx (mVar 2) (mC (.int 1))) (mNil)))) (mC (.int 1)))) (mStuck) (mPass)) <| mRet (mVar 1)
def S_read_sentence : Nat → Fn
  | 0 => fun _ _ => .stuck
  | 1 => fun _ _ => .stuck
  | k + 2 => mDef 3 (B_read_sentence (S_sentence_in (k + 1)) (S_atoms_of (k + 1)))
theorem S_read_sentence_eq (k : Nat) : S_read_sentence (k + 2) = mDef 3 (B_read_sentence (S_sentence_in (k + 1)) (S_atoms_of (k + 1))) := by rfl
def B_common_part : MS := mSeq (mPar 0 1 (mCons (mB fAbs (mCons (mVar 0) (mNil))) (mCons (mB fAbs (mCons (mVar 1) (mNil))) (mNil)))) <| mSeq (mWhile fuel (mCmpT fNe (mVar 1) (mC (.int 0))) (mPar 0 1 (mCons (mVar 1) (mCons (mBin fMod (mVar 0) (mVar 1)) (mNil))))) <| mRet (mVar 0)
def S_common_part : Nat → Fn
  | 0 => fun _ _ => .stuck
  | 1 => fun _ _ => .stuck
  | k + 2 => mDef 2 (B_common_part )
theorem S_common_part_eq (k : Nat) : S_common_part (k + 2) = mDef 2 (B_common_part ) := by rfl
def B_wheel_of (f_atoms_of f_common_part : Fn) : MS := mSeq (mAsg (mC (.int 1)) (mGN 1)) <| mSeq (mFor (mIter (mCall 1 0 f_atoms_of gd_atoms_of_1 (mCons (mVar 0) (mNil)) (mNil))) (mGN 2) (mIfS (mCmpT fEq (mBin fIx (mVar 2) (mC (.int 0))) (mC (.str "rest"))) (mSeq (mAsg (mBin fIx (mVar 2) (mC (.int 1))) (mGStar 2 0 (mGCons (mGN 3) (mGCons (mGN 4) (mGNil))))) <| mSeq (mAsg (mBin fDiv (mBin fIx (mVar 2) (mC (.int 2))) (mCall 2 0 f_common_part gd_common_part_2 (mCons (mBin fIx (mVar 2) (mC (.int 2))) (mCons (mVar 4) (mNil))) (mNil))) (mGN 5)) <| mAsg (mBin fDiv (mBin fMul (mVar 1) (mVar 5)) (mCall 2 0 f_common_part gd_common_part_2 (mCons (mVar 1) (mCons (mVar 5) (mNil))) (mNil))) (mGN 1)) (mPass))) <| mRet (mVar 1)
def S_wheel_of : Nat → Fn
  | 0 => fun _ _ => .stuck
  | 1 => fun _ _ => .stuck
  | k + 2 => mDef 6 (B_wheel_of (S_atoms_of (k + 1)) (S_common_part (k + 1)))
theorem S_wheel_of_eq (k : Nat) : S_wheel_of (k + 2) = mDef 6 (B_wheel_of (S_atoms_of (k + 1)) (S_common_part (k + 1))) := by rfl
def B_breaking (f_atoms_of : Fn) : MS := mRet (mLc (mIter (mCall 1 0 f_atoms_of gd_atoms_of_1 (mCons (mVar 0) (mNil)) (mNil))) (mGN 1) [1] (mAndT (mCmpT fEq (mBin fIx (mVar 1) (mC (.int 0))) (mC (.str "least"))) (mCmpT fNe (mBin fIx (mBin fIx (mVar 1) (mC (.int 1))) (mUn fNeg (mC (.int 1)))) (mC (.int 0)))) (mVar 1))
def S_breaking : Nat → Fn
  | 0 => fun _ _ => .stuck
  | 1 => fun _ _ => .stuck
  | k + 2 => mDef 2 (B_breaking (S_atoms_of (k + 1)))
theorem S_breaking_eq (k : Nat) : S_breaking (k + 2) = mDef 2 (B_breaking (S_atoms_of (k + 1))) := by rfl
def B_sought_by : MS := mSeq (mAsg (mVar 0) (mGSeq 2 (mGCons (mGN 1) (mGCons (mGN 2) (mGNil))))) <| mRet (mIf (mCmpT fEq (mVar 1) (mC (.str "some"))) (mVar 2) (mTup (mCons (mC (.str "not")) (mCons (mVar 2) (mNil)))))
def S_sought_by : Nat → Fn
  | 0 => fun _ _ => .stuck
  | 1 => fun _ _ => .stuck
  | k + 2 => mDef 3 (B_sought_by )
theorem S_sought_by_eq (k : Nat) : S_sought_by (k + 2) = mDef 3 (B_sought_by ) := by rfl
def B_Put_init : MS := mSeq (mSetF ["Put"] "slopes" (mVar 0) (mVar 1)) <| mSeq (mSetF ["Put"] "start" (mVar 0) (mVar 2)) <| mSetF ["Put"] "parts" (mVar 0) (mVar 3)
def S_Put_init : Nat → Fn
  | 0 => fun _ _ => .stuck
  | 1 => fun _ _ => .stuck
  | k + 2 => mDef 4 (B_Put_init )
theorem S_Put_init_eq (k : Nat) : S_Put_init (k + 2) = mDef 4 (B_Put_init ) := by rfl
def B_Put_weights_in : MS := mSeq (mAsg (mVar 1) (mGStar 2 0 (mGCons (mGN 2) (mGCons (mGN 3) (mGNil))))) <| mRet (mB fTuple (mCons (mLc (mZipS (mCons (mVar 2) (mCons (mFld ["Put"] "slopes" (mVar 0)) (mNil)))) (mGSeq 2 (mGCons (mGN 4) (mGCons (mGN 5) (mGNil)))) [4, 5] (mYes) (mBin fAdd (mBin fMul (mFld ["Put"] "parts" (mVar 0)) (mVar 4)) (mBin fMul (mVar 3) (mVar 5)))) (mNil)))
def S_Put_weights_in : Nat → Fn
  | 0 => fun _ _ => .stuck
  | 1 => fun _ _ => .stuck
  | k + 2 => mDef 6 (B_Put_weights_in )
theorem S_Put_weights_in_eq (k : Nat) : S_Put_weights_in (k + 2) = mDef 6 (B_Put_weights_in ) := by rfl
def B_Put_into (f_Put_weights_in f_Put_into : Fn) : MS := mSeq (mAsg (mVar 1) (mGStar 2 1 (mGCons (mGN 2) (mGCons (mGN 3) (mGNil))))) <| mSeq (mIfS (mCmpT fEq (mVar 2) (mC (.str "least"))) (mSeq (mAsg (mVar 3) (mGSeq 2 (mGCons (mGN 4) (mGCons (mGN 5) (mGNil))))) <| mRet (mTup (mCons (mC (.str "least")) (mCons (mMeth "Put" "weights_in" 2 0 f_Put_weights_in gd_Put_weights_in_2 (mVar 0) (mCons (mVar 4) (mNil)) (mNil)) (mCons (mBin fSub (mBin fMul (mFld ["Put"] "parts" (mVar 0)) (mVar 5)) (mBin fMul (mBin fIx (mVar 4) (mUn fNeg (mC (.int 1)))) (mFld ["Put"] "start" (mVar 0)))) (mNil)))))) (mPass)) <| mSeq (mIfS (mCmpT fEq (mVar 2) (mC (.str "rest"))) (mSeq (mAsg (mVar 3) (mGSeq 3 (mGCons (mGN 4) (mGCons (mGN 6) (mGCons (mGN 7) (mGNil)))))) <| mSeq (mAsg (mBin fMul (mFld ["Put"] "parts" (mVar 0)) (mVar 6)) (mGN 8)) <| mRet (mTup (mCons (mC (.str "rest")) (mCons (mMeth "Put" "weights_in" 2 0 f_Put_weights_in gd_Put_weights_in_2 (mVar 0) (mCons (mVar 4) (mNil)) (mNil)) (mCons (mVar 8) (mCons (mBin fMod (mBin fSub (mBin fMul (mFld ["Put"] "parts" (mVar 0)) (mVar 7)) (mBin fMul (mBin fIx (mVar 4) (mUn fNeg (mC (.int 1)))) (mFld ["Put"] "start" (mVar 0)))) (mVar 8)) (mNil))))))) (mPass)) <| mRet (mBin fAdd (mTup (mCons (mVar 2) (mNil))) (mB fTuple (mCons (mLc (mIter (mVar 3)) (mGN 9) [9] (mYes) (mMeth "Put" "into" 2 0 f_Put_into gd_Put_into_2 (mVar 0) (mCons (mVar 9) (mNil)) (mNil))) (mNil))))
def S_Put_into : Nat → Fn
  | 0 => fun _ _ => .stuck
  | 1 => fun _ _ => .stuck
  | k + 2 => mDef 10 (B_Put_into (S_Put_weights_in (k + 1)) (S_Put_into (k + 1)))
theorem S_Put_into_eq (k : Nat) : S_Put_into (k + 2) = mDef 10 (B_Put_into (S_Put_weights_in (k + 1)) (S_Put_into (k + 1))) := by rfl
def B_Put_is_number : MS := mRet (mTup (mCons (mC (.str "least")) (mCons (mFld ["Put"] "slopes" (mVar 0)) (mCons (mUn fNeg (mFld ["Put"] "start" (mVar 0))) (mNil)))))
def S_Put_is_number : Nat → Fn
  | 0 => fun _ _ => .stuck
  | 1 => fun _ _ => .stuck
  | k + 2 => mDef 1 (B_Put_is_number )
theorem S_Put_is_number_eq (k : Nat) : S_Put_is_number (k + 2) = mDef 1 (B_Put_is_number ) := by rfl
def B_puts_at (f_Put_init : Fn) : MS := mSeq (mAsg (mBin fIx (mVar 0) (mC (.int 1))) (mGStar 2 0 (mGCons (mGN 2) (mGCons (mGN 3) (mGNil))))) <| mSeq (mAsg (mB fAbs (mCons (mVar 3) (mNil))) (mGN 4)) <| mSeq (mAsg (mLstM (mNil)) (mGN 5)) <| mSeq (mFor (mRng1 (mCons (mVar 4) (mNil))) (mGN 6) (mSeq (mAsg (mTup (mCons (mC (.str "rest")) (mCons (mB fTuple (mCons (mVar 2) (mNil))) (mCons (mVar 4) (mCons (mBin fMod (mBin fAdd (mBin fIx (mVar 0) (mC (.int 2))) (mVar 6)) (mVar 4)) (mNil)))))) (mGN 7)) <| mFor (mRng1 (mCons (mVar 1) (mNil))) (mGN 8) (mSeq (mIfS (mCmpT fGt (mVar 3) (mC (.int 0))) (mAsg (mMake "Put" 3 1 f_Put_init gd_Put_init_3_by (mCons (mB fTuple (mCons (mLc (mIter (mVar 2)) (mGN 10) [10] (mYes) (mUn fNeg (mVar 10))) (mNil))) (mCons (mBin fAdd (mBin fAdd (mBin fIx (mVar 0) (mC (.int 2))) (mVar 6)) (mBin fMul (mVar 4) (mVar 8))) (mNil))) (mCons (mVar 4) (mNil))) (mGN 9)) (mAsg (mMake "Put" 3 1 f_Put_init gd_Put_init_3_by (mCons (mB fTuple (mCons (mVar 2) (mNil))) (mCons (mBin fSub (mBin fSub (mBin fMul (mVar 4) (mBin fAdd (mVar 8) (mC (.int 1)))) (mBin fIx (mVar 0) (mC (.int 2)))) (mVar 6)) (mNil))) (mCons (mVar 4) (mNil))) (mGN 9))) <| mExpr (mMt preL fAppend (mVar 5) (mCons (mTup (mCons (mVar 9) (mCons (mVar 7) (mNil)))) (mNil)))))) <| mRet (mFrz (mVar 5))
def S_puts_at : Nat → Fn
  | 0 => fun _ _ => .stuck
  | 1 => fun _ _ => .stuck
  | k + 2 => mDef 11 (B_puts_at (S_Put_init k))
theorem S_puts_at_eq (k : Nat) : S_puts_at (k + 2) = mDef 11 (B_puts_at (S_Put_init k)) := by rfl
def B_any_of : MS := mSeq (mWhile fuel (mCmpT fGt (mB fLen (mCons (mVar 0) (mNil))) (mC (.int 1))) (mSeq (mAsg (mSl (mVar 0) (mPart (mBin fMul (mBin fDiv (mB fLen (mCons (mVar 0) (mNil))) (mC (.int 2))) (mC (.int 2)))) (mNoPart)) (mGN 1)) <| mAsg (mBin fAdd (mLc (mZip (mCons (mStep 0 2 (mVar 0)) (mCons (mStep 1 2 (mVar 0)) (mNil)))) (mGSeq 2 (mGCons (mGN 2) (mGCons (mGN 3) (mGNil)))) [2, 3] (mYes) (mTup (mCons (mC (.str "or")) (mCons (mVar 2) (mCons (mVar 3) (mNil)))))) (mVar 1)) (mGN 0))) <| mRet (mBin fIx (mVar 0) (mC (.int 0)))
def S_any_of : Nat → Fn
  | 0 => fun _ _ => .stuck
  | 1 => fun _ _ => .stuck
  | k + 2 => mDef 4 (B_any_of )
theorem S_any_of_eq (k : Nat) : S_any_of (k + 2) = mDef 4 (B_any_of ) := by rfl
def B_plainly_some (f_wheel_of f_many_of f_Put_into f_breaking f_puts_at f_Put_is_number f_any_of f_Put_init : Fn) : MS := mSeq (mAsg (mCall 1 0 f_wheel_of gd_wheel_of_1 (mCons (mVar 0) (mNil)) (mNil)) (mGN 1)) <| mSeq (mAsg (mBin fMul (mTup (mCons (mC (.int 0)) (mNil))) (mBin fSub (mCall 1 0 f_many_of gd_many_of_1 (mCons (mVar 0) (mNil)) (mNil)) (mC (.int 1)))) (mGN 2)) <| mSeq (mAsg (mLcM (mRng1 (mCons (mVar 1) (mNil))) (mGN 7) [7] (mYes) (mMeth "Put" "into" 2 0 f_Put_into gd_Put_into_2 (mMake "Put" 3 0 f_Put_init gd_Put_init_3 (mCons (mVar 2) (mCons (mVar 7) (mNil))) (mNil)) (mCons (mVar 0) (mNil)) (mNil))) (mGN 3)) <| mSeq (mFor (mIter (mCall 1 0 f_breaking gd_breaking_1 (mCons (mVar 0) (mNil)) (mNil))) (mGN 4) (mFor (mIter (mCall 2 0 f_puts_at gd_puts_at_2 (mCons (mVar 4) (mCons (mVar 1) (mNil))) (mNil))) (mGSeq 2 (mGCons (mGN 5) (mGCons (mGN 6) (mGNil)))) (mExpr (mMt preL fAppend (mVar 3) (mCons (mTup (mCons (mC (.str "and")) (mCons (mVar 6) (mCons (mTup (mCons (mC (.str "and")) (mCons (mMeth "Put" "is_number" 1 0 f_Put_is_number gd_Put_is_number_1 (mVar 5) (mNil) (mNil)) (mCons (mMeth "Put" "into" 2 0 f_Put_into gd_Put_into_2 (mVar 5) (mCons (mVar 0) (mNil)) (mNil)) (mNil))))) (mNil))))) (mNil)))))) <| mRet (mCall 1 0 f_any_of gd_any_of_1 (mCons (mVar 3) (mNil)) (mNil))
def S_plainly_some : Nat → Fn
  | 0 => fun _ _ => .stuck
  | 1 => fun _ _ => .stuck
  | k + 2 => mDef 8 (B_plainly_some (S_wheel_of (k + 1)) (S_many_of (k + 1)) (S_Put_into (k + 1)) (S_breaking (k + 1)) (S_puts_at (k + 1)) (S_Put_is_number (k + 1)) (S_any_of (k + 1)) (S_Put_init k))
theorem S_plainly_some_eq (k : Nat) : S_plainly_some (k + 2) = mDef 8 (B_plainly_some (S_wheel_of (k + 1)) (S_many_of (k + 1)) (S_Put_into (k + 1)) (S_breaking (k + 1)) (S_puts_at (k + 1)) (S_Put_is_number (k + 1)) (S_any_of (k + 1)) (S_Put_init k)) := by rfl
def B_plainly (f_sought_by f_plainly_some : Fn) : MS := mSeq (mAsg (mCall 1 0 f_plainly_some gd_plainly_some_1 (mCons (mCall 1 0 f_sought_by gd_sought_by_1 (mCons (mVar 0) (mNil)) (mNil)) (mNil)) (mNil)) (mGN 1)) <| mRet (mIf (mCmpT fEq (mBin fIx (mVar 0) (mC (.int 0))) (mC (.str "some"))) (mVar 1) (mTup (mCons (mC (.str "not")) (mCons (mVar 1) (mNil)))))
def S_plainly : Nat → Fn
  | 0 => fun _ _ => .stuck
  | 1 => fun _ _ => .stuck
  | k + 2 => mDef 2 (B_plainly (S_sought_by (k + 1)) (S_plainly_some (k + 1)))
theorem S_plainly_eq (k : Nat) : S_plainly (k + 2) = mDef 2 (B_plainly (S_sought_by (k + 1)) (S_plainly_some (k + 1))) := by rfl
def B__law_mix : MS := mSeq (mAsg (mBin fMod (mBin fMul (mBin fXor (mVar 0) (mBin fDiv (mVar 0) (mC (.int 1073741824)))) (mC (.int 13787848793156543929))) (mC (.int 18446744073709551616))) (mGN 0)) <| mSeq (mAsg (mBin fMod (mBin fMul (mBin fXor (mVar 0) (mBin fDiv (mVar 0) (mC (.int 134217728)))) (mC (.int 10723151780598845931))) (mC (.int 18446744073709551616))) (mGN 0)) <| mRet (mBin fXor (mVar 0) (mBin fDiv (mVar 0) (mC (.int 2147483648))))
def S__law_mix : Nat → Fn
  | 0 => fun _ _ => .stuck
  | 1 => fun _ _ => .stuck
  | k + 2 => mDef 1 (B__law_mix )
theorem S__law_mix_eq (k : Nat) : S__law_mix (k + 2) = mDef 1 (B__law_mix ) := by rfl
def B__law_jar (f__law_mix : Fn) : MS := mSeq (mAsg (mC (.int 4907000000000229)) (mGN 1)) <| mSeq (mFor (mIter (mSl (mVar 0) (mNoPart) (mPart (mC (.int 63))))) (mGN 2) (mAsg (mCall 1 0 f__law_mix gd__law_mix_1 (mCons (mBin fMod (mBin fAdd (mBin fMul (mVar 1) (mC (.int 5))) (mVar 2)) (mC (.int 18446744073709551616))) (mNil)) (mNil)) (mGN 1))) <| mRet (mDict ((mC (.str "cells"), mB fListM (mCons (mSl (mVar 0) (mNoPart) (mPart (mC (.int 63)))) (mNil))) :: (mC (.str "rest"), mC (.int 0)) :: (mC (.str "seed"), mVar 1) :: (mC (.str "turn"), mC (.int 0)) :: []))
def S__law_jar : Nat → Fn
  | 0 => fun _ _ => .stuck
  | 1 => fun _ _ => .stuck
  | k + 2 => mDef 3 (B__law_jar (S__law_mix (k + 1)))
theorem S__law_jar_eq (k : Nat) : S__law_jar (k + 2) = mDef 3 (B__law_jar (S__law_mix (k + 1))) := by rfl
def B__law_pick (f__law_mix : Fn) : MS := mSeq (mIfS (mCmpT fLt (mDGet (mVar 0) (mC (.str "rest"))) (mVar 1)) (mSeq (mDPut (mVar 0) (mC (.str "turn")) (mBin fAdd (mDGet (mVar 0) (mC (.str "turn"))) (mC (.int 1)))) <| mIfS (mCmpT fNe (mDGet (mVar 0) (mC (.str "cells"))) (mLst (mNil))) (mSeq (mAsg (mMt preL fPopAt (mDGet (mVar 0) (mC (.str "cells"))) (mCons (mC (.int 0)) (mNil))) (mGN 2)) <| mSeq (mDPut (mVar 0) (mC (.str "rest")) (mVar 2)) <| mIfS (mCmpT fLt (mVar 2) (mBin fPow (mC (.int 10)) (mC (.int 18)))) (mSeq (mAsg (mBin fAdd (mBin fMul (mVar 2) (mC (.int 7))) (mBin fMul (mDGet (mVar 0) (mC (.str "turn"))) (mC (.int 11400714819323198485)))) (mGN 3)) <| mSeq (mAsg (mCall 1 0 f__law_mix gd__law_mix_1 (mCons (mBin fMod (mVar 3) (mC (.int 18446744073709551616))) (mNil)) (mNil)) (mGN 4)) <| mDPut (mVar 0) (mC (.str "rest")) (mBin fAdd (mBin fMul (mVar 4) (mC (.int 18446744073709551616))) (mCall 1 0 f__law_mix gd__law_mix_1 (mCons (mBin fXor (mVar 4) (mC (.int 91))) (mNil)) (mNil)))) (mPass)) (mSeq (mDPut (mVar 0) (mC (.str "seed")) (mCall 1 0 f__law_mix gd__law_mix_1 (mCons (mBin fMod (mBin fAdd (mDGet (mVar 0) (mC (.str "seed"))) (mC (.int 11400714819323198485))) (mC (.int 18446744073709551616))) (mNil)) (mNil))) <| mDPut (mVar 0) (mC (.str "rest")) (mDGet (mVar 0) (mC (.str "seed"))))) (mPass)) <| mSeq (mAsg (mBin fMod (mDGet (mVar 0) (mC (.str "rest"))) (mVar 1)) (mGN 5)) <| mSeq (mDPut (mVar 0) (mC (.str "rest")) (mBin fDiv (mDGet (mVar 0) (mC (.str "rest"))) (mVar 1))) <| mRet (mVar 5)
def S__law_pick : Nat → Fn
  | 0 => fun _ _ => .stuck
  | 1 => fun _ _ => .stuck
  | k + 2 => mDef 6 (B__law_pick (S__law_mix (k + 1)))
theorem S__law_pick_eq (k : Nat) : S__law_pick (k + 2) = mDef 6 (B__law_pick (S__law_mix (k + 1))) := by rfl
def B__law_simple (f__law_pick : Fn) : MS := mSeq (mAsg (mB fTuple (mCons (mLc (mRng1 (mCons (mVar 1) (mNil))) (mGN 4) [4] (mYes) (mBin fSub (mCall 2 0 f__law_pick gd__law_pick_2 (mCons (mVar 0) (mCons (mC (.int 7)) (mNil))) (mNil)) (mC (.int 3)))) (mNil))) (mGN 2)) <| mSeq (mIfS (mCmpT fEq (mCall 2 0 f__law_pick gd__law_pick_2 (mCons (mVar 0) (mCons (mC (.int 2)) (mNil))) (mNil)) (mC (.int 0))) (mRet (mTup (mCons (mC (.str "least")) (mCons (mVar 2) (mCons (mBin fSub (mCall 2 0 f__law_pick gd__law_pick_2 (mCons (mVar 0) (mCons (mC (.int 9)) (mNil))) (mNil)) (mC (.int 4))) (mNil)))))) (mPass)) <| mSeq (mAsg (mBin fAdd (mC (.int 2)) (mCall 2 0 f__law_pick gd__law_pick_2 (mCons (mVar 0) (mCons (mC (.int 4)) (mNil))) (mNil))) (mGN 3)) <| mRet (mTup (mCons (mC (.str "rest")) (mCons (mVar 2) (mCons (mVar 3) (mCons (mCall 2 0 f__law_pick gd__law_pick_2 (mCons (mVar 0) (mCons (mVar 3) (mNil))) (mNil)) (mNil))))))
def S__law_simple : Nat → Fn
  | 0 => fun _ _ => .stuck
  | 1 => fun _ _ => .stuck
  | k + 2 => mDef 5 (B__law_simple (S__law_pick (k + 1)))
theorem S__law_simple_eq (k : Nat) : S__law_simple (k + 2) = mDef 5 (B__law_simple (S__law_pick (k + 1))) := by rfl
def B__law_sentence (f__law_pick f__law_simple f__law_sentence : Fn) : MS := mSeq (mAsg (mBin fMul (mCall 2 0 f__law_pick gd__law_pick_2 (mCons (mVar 0) (mCons (mC (.int 5)) (mNil))) (mNil)) (mB fInt (mCons (mCmp fGt (mVar 2) (mC (.int 0))) (mNil)))) (mGN 3)) <| mSeq (mIfS (mCmpT fLt (mVar 3) (mC (.int 2))) (mRet (mCall 2 0 f__law_simple gd__law_simple_2 (mCons (mVar 0) (mCons (mVar 1) (mNil))) (mNil))) (mPass)) <| mSeq (mIfS (mCmpT fEq (mVar 3) (mC (.int 2))) (mRet (mTup (mCons (mC (.str "not")) (mCons (mCall 3 0 f__law_sentence gd__law_sentence_3 (mCons (mVar 0) (mCons (mVar 1) (mCons (mBin fSub (mVar 2) (mC (.int 1))) (mNil)))) (mNil)) (mNil))))) (mPass)) <| mSeq (mAsg (mCall 3 0 f__law_sentence gd__law_sentence_3 (mCons (mVar 0) (mCons (mVar 1) (mCons (mBin fSub (mVar 2) (mC (.int 1))) (mNil)))) (mNil)) (mGN 4)) <| mRet (mTup (mCons (mBin fIx (mLst (mCons (mC (.str "and")) (mCons (mC (.str "or")) (mNil)))) (mBin fSub (mVar 3) (mC (.int 3)))) (mCons (mVar 4) (mCons (mCall 3 0 f__law_sentence gd__law_sentence_3 (mCons (mVar 0) (mCons (mVar 1) (mCons (mBin fSub (mVar 2) (mC (.int 1))) (mNil)))) (mNil)) (mNil)))))
def S__law_sentence : Nat → Fn
  | 0 => fun _ _ => .stuck
  | 1 => fun _ _ => .stuck
  | k + 2 => mDef 5 (B__law_sentence (S__law_pick (k + 1)) (S__law_simple (k + 1)) (S__law_sentence (k + 1)))
theorem S__law_sentence_eq (k : Nat) : S__law_sentence (k + 2) = mDef 5 (B__law_sentence (S__law_pick (k + 1)) (S__law_simple (k + 1)) (S__law_sentence (k + 1))) := by rfl
def B__law_written (f__law_written : Fn) : MS := mSeq (mIfS (mCmpT fEq (mBin fIx (mVar 0) (mC (.int 0))) (mC (.str "not"))) (mRet (mBin fAdd (mC (.str "not ")) (mCall 1 0 f__law_written gd__law_written_1 (mCons (mBin fIx (mVar 0) (mC (.int 1))) (mNil)) (mNil)))) (mPass)) <| mSeq (mIfS (mCmpT fIn (mBin fIx (mVar 0) (mC (.int 0))) (mTup (mCons (mC (.str "and")) (mCons (mC (.str "or")) (mNil))))) (mSeq (mAsg (mLc (mIter (mSl (mVar 0) (mPart (mC (.int 1))) (mNoPart))) (mGN 4) [4] (mYes) (mCall 1 0 f__law_written gd__law_written_1 (mCons (mVar 4) (mNil)) (mNil))) (mGN 1)) <| mRet (mBin fAdd (mBin fAdd (mC (.str "(")) (mMt preS fJoin (mBin fAdd (mBin fAdd (mC (.str " ")) (mBin fIx (mVar 0) (mC (.int 0)))) (mC (.str " "))) (mCons (mVar 1) (mNil)))) (mC (.str ")")))) (mPass)) <| mSeq (mAsg (mBin fAdd (mBin fAdd (mBin fIx (mVar 0) (mC (.int 0))) (mC (.str " "))) (mMt preS fJoin (mC (.str ",")) (mCons (mLc (mIter (mBin fIx (mVar 0) (mC (.int 1)))) (mGN 5) [5] (mYes) (mB fStr (mCons (mVar 5) (mNil)))) (mNil)))) (mGN 2)) <| mSeq (mFor (mIter (mSl (mVar 0) (mPart (mC (.int 2))) (mNoPart))) (mGN 3) (mAsg (mBin fAdd (mBin fAdd (mVar 2) (mC (.str " "))) (mB fStr (mCons (mVar 3) (mNil)))) (mGN 2))) <| mRet (mVar 2)
def S__law_written : Nat → Fn
  | 0 => fun _ _ => .stuck
  | 1 => fun _ _ => .stuck
  | k + 2 => mDef 6 (B__law_written (S__law_written (k + 1)))
theorem S__law_written_eq (k : Nat) : S__law_written (k + 2) = mDef 6 (B__law_written (S__law_written (k + 1))) := by rfl
def B__law_same (f__law_same : Fn) : MS := mSeq (mIfS (mCmpT fIs (mVar 1) (mC .non)) (mRet (mCmp fIs (mVar 0) (mC .non))) (mPass)) <| mSeq (mIfS (mIsi "bool" (mVar 1)) (mRet (mAndV (mOfT (mIsi "bool" (mVar 0))) (mCmp fEq (mVar 0) (mVar 1)))) (mPass)) <| mSeq (mIfS (mIsi "int" (mVar 1)) (mRet (mAndV (mOfT (mIsi "int" (mVar 0))) (mAndV (mNotV (mOfT (mIsi "bool" (mVar 0)))) (mCmp fEq (mVar 0) (mVar 1))))) (mPass)) <| mSeq (mIfS (mIsi "str" (mVar 1)) (mRet (mAndV (mOfT (mIsi "str" (mVar 0))) (mCmp fEq (mVar 0) (mVar 1)))) (mPass)) <| mSeq (mIfS (mOrT (mCmpT fNe (mOfT (mIsi "tuple" (mVar 1))) (mOfT (mIsi "tuple" (mVar 0)))) (mCmpT fNe (mOfT (mIsi "list" (mVar 1))) (mOfT (mIsi "list" (mVar 0))))) (mRet (mC (.bl false))) (mPass)) <| mSeq (mIfS (mCmpT fNe (mB fLen (mCons (mVar 0) (mNil))) (mB fLen (mCons (mVar 1) (mNil)))) (mRet (mC (.bl false))) (mPass)) <| mRet (mB fAll (mCons (mLc (mZip (mCons (mVar 0) (mCons (mVar 1) (mNil)))) (mGSeq 2 (mGCons (mGN 2) (mGCons (mGN 3) (mGNil)))) [2, 3] (mYes) (mCall 2 0 f__law_same gd__law_same_2 (mCons (mVar 2) (mCons (mVar 3) (mNil))) (mNil))) (mNil)))
def S__law_same : Nat → Fn
  | 0 => fun _ _ => .stuck
  | 1 => fun _ _ => .stuck
  | k + 2 => mDef 4 (B__law_same (S__law_same (k + 1)))
theorem S__law_same_eq (k : Nat) : S__law_same (k + 2) = mDef 4 (B__law_same (S__law_same (k + 1))) := by rfl
def B_law (f__law_jar f__law_pick f__law_sentence f__law_written f_show_sentence f__law_same f_read_sentence f_plainly : Fn) : MS := mSeq (mAsg (mCall 1 0 f__law_jar gd__law_jar_1 (mCons (mVar 0) (mNil)) (mNil)) (mGN 1)) <| mSeq (mFor (mRng1 (mCons (mC (.int 8)) (mNil))) (mGN 2) (mSeq (mAsg (mCall 3 0 f__law_sentence gd__law_sentence_3 (mCons (mVar 1) (mCons (mBin fAdd (mC (.int 1)) (mCall 2 0 f__law_pick gd__law_pick_2 (mCons (mVar 1) (mCons (mC (.int 3)) (mNil))) (mNil))) (mCons (mC (.int 2)) (mNil)))) (mNil)) (mGN 3)) <| mSeq (mAsg (mCall 1 0 f__law_written gd__law_written_1 (mCons (mVar 3) (mNil)) (mNil)) (mGN 4)) <| mIfS (mOrT (mNotT (mTru (mCall 2 0 f__law_same gd__law_same_2 (mCons (mCall 1 0 f_show_sentence gd_show_sentence_1 (mCons (mVar 3) (mNil)) (mNil)) (mCons (mVar 4) (mNil))) (mNil)))) (mNotT (mTru (mCall 2 0 f__law_same gd__law_same_2 (mCons (mCall 1 0 f_read_sentence gd_read_sentence_1 (mCons (mVar 4) (mNil)) (mNil)) (mCons (mVar 3) (mNil))) (mNil))))) (mRet (mC (.bl false))) (mPass))) <| mSeq (mAsg (mTup (mCons (mBin fIx (mLst (mCons (mC (.str "some")) (mCons (mC (.str "all")) (mNil)))) (mCall 2 0 f__law_pick gd__law_pick_2 (mCons (mVar 1) (mCons (mC (.int 2)) (mNil))) (mNil))) (mCons (mCall 3 0 f__law_sentence gd__law_sentence_3 (mCons (mVar 1) (mCons (mBin fAdd (mC (.int 2)) (mCall 2 0 f__law_pick gd__law_pick_2 (mCons (mVar 1) (mCons (mC (.int 2)) (mNil))) (mNil))) (mCons (mCall 2 0 f__law_pick gd__law_pick_2 (mCons (mVar 1) (mCons (mC (.int 2)) (mNil))) (mNil)) (mNil)))) (mNil)) (mNil)))) (mGN 5)) <| mSeq (mAsg (mCall 1 0 f_plainly gd_plainly_1 (mCons (mVar 5) (mNil)) (mNil)) (mGN 6)) <| mRet (mCall 2 0 f__law_same gd__law_same_2 (mCons (mCall 1 0 f_show_sentence gd_show_sentence_1 (mCons (mVar 6) (mNil)) (mNil)) (mCons (mCall 1 0 f__law_written gd__law_written_1 (mCons (mVar 6) (mNil)) (mNil)) (mNil))) (mNil))
def S_law : Nat → Fn
  | 0 => fun _ _ => .stuck
  | 1 => fun _ _ => .stuck
  | k + 2 => mDef 7 (B_law (S__law_jar (k + 1)) (S__law_pick (k + 1)) (S__law_sentence (k + 1)) (S__law_written (k + 1)) (S_show_sentence (k + 1)) (S__law_same (k + 1)) (S_read_sentence (k + 1)) (S_plainly (k + 1)))
theorem S_law_eq (k : Nat) : S_law (k + 2) = mDef 7 (B_law (S__law_jar (k + 1)) (S__law_pick (k + 1)) (S__law_sentence (k + 1)) (S__law_written (k + 1)) (S_show_sentence (k + 1)) (S__law_same (k + 1)) (S_read_sentence (k + 1)) (S_plainly (k + 1))) := by rfl
/-! ### what the walk asks of the text -/
structure Txt (K : PySem.W.Frag) (w : World) (mg : Str → Option Value) (a_many_of a_atoms_of a_show_sentence a_number_in a_simple_in a_places_between a_both_in a_sentence_in a_read_sentence a_common_part a_wheel_of a_breaking a_sought_by a_Put_init a_Put_weights_in a_Put_into a_Put_is_number a_puts_at a_any_of a_plainly_some a_plainly a__law_mix a__law_jar a__law_pick a__law_simple a__law_sentence a__law_written a__law_same a_law : Addr) (d_many_of d_atoms_of d_show_sentence d_number_in d_simple_in d_places_between d_both_in d_sentence_in d_read_sentence d_common_part d_wheel_of d_breaking d_sought_by d_Put_init d_Put_weights_in d_Put_into d_Put_is_number d_puts_at d_any_of d_plainly_some d_plainly d__law_mix d__law_jar d__law_pick d__law_simple d__law_sentence d__law_written d__law_same d_law : FuncData) (C_Put : Addr) : Prop where
  F_many_of : FunD K "many_of" "many_of" (defArgs s_many_of) (defBody s_many_of) (defScope s_many_of) [] [] a_many_of d_many_of
  g_many_of : mg "many_of" = some (.ref a_many_of)
  F_atoms_of : FunD K "atoms_of" "atoms_of" (defArgs s_atoms_of) (defBody s_atoms_of) (defScope s_atoms_of) [] [] a_atoms_of d_atoms_of
  g_atoms_of : mg "atoms_of" = some (.ref a_atoms_of)
  F_show_sentence : FunD K "show_sentence" "show_sentence" (defArgs s_show_sentence) (defBody s_show_sentence) (defScope s_show_sentence) [] [] a_show_sentence d_show_sentence
  g_show_sentence : mg "show_sentence" = some (.ref a_show_sentence)
  F_number_in : FunD K "number_in" "number_in" (defArgs s_number_in) (defBody s_number_in) (defScope s_number_in) [] [] a_number_in d_number_in
  g_number_in : mg "number_in" = some (.ref a_number_in)
  F_simple_in : FunD K "simple_in" "simple_in" (defArgs s_simple_in) (defBody s_simple_in) (defScope s_simple_in) [] [] a_simple_in d_simple_in
  g_simple_in : mg "simple_in" = some (.ref a_simple_in)
  F_places_between : FunD K "places_between" "places_between" (defArgs s_places_between) (defBody s_places_between) (defScope s_places_between) [] [] a_places_between d_places_between
  g_places_between : mg "places_between" = some (.ref a_places_between)
  F_both_in : FunD K "both_in" "both_in" (defArgs s_both_in) (defBody s_both_in) (defScope s_both_in) [] [] a_both_in d_both_in
  g_both_in : mg "both_in" = some (.ref a_both_in)
  F_sentence_in : FunD K "sentence_in" "sentence_in" (defArgs s_sentence_in) (defBody s_sentence_in) (defScope s_sentence_in) [] [] a_sentence_in d_sentence_in
  g_sentence_in : mg "sentence_in" = some (.ref a_sentence_in)
  F_read_sentence : FunD K "read_sentence" "read_sentence" (defArgs s_read_sentence) (defBody s_read_sentence) (defScope s_read_sentence) [] [] a_read_sentence d_read_sentence
  g_read_sentence : mg "read_sentence" = some (.ref a_read_sentence)
  F_common_part : FunD K "common_part" "common_part" (defArgs s_common_part) (defBody s_common_part) (defScope s_common_part) [] [] a_common_part d_common_part
  g_common_part : mg "common_part" = some (.ref a_common_part)
  F_wheel_of : FunD K "wheel_of" "wheel_of" (defArgs s_wheel_of) (defBody s_wheel_of) (defScope s_wheel_of) [] [] a_wheel_of d_wheel_of
  g_wheel_of : mg "wheel_of" = some (.ref a_wheel_of)
  F_breaking : FunD K "breaking" "breaking" (defArgs s_breaking) (defBody s_breaking) (defScope s_breaking) [] [] a_breaking d_breaking
  g_breaking : mg "breaking" = some (.ref a_breaking)
  F_sought_by : FunD K "sought_by" "sought_by" (defArgs s_sought_by) (defBody s_sought_by) (defScope s_sought_by) [] [] a_sought_by d_sought_by
  g_sought_by : mg "sought_by" = some (.ref a_sought_by)
  F_Put_init : FunD K "__init__" "Put.__init__" (defArgs s_Put_init) (defBody s_Put_init) (defScope s_Put_init) [] [("by", V.int (1))] a_Put_init d_Put_init
  F_Put_weights_in : FunD K "weights_in" "Put.weights_in" (defArgs s_Put_weights_in) (defBody s_Put_weights_in) (defScope s_Put_weights_in) [] [] a_Put_weights_in d_Put_weights_in
  F_Put_into : FunD K "into" "Put.into" (defArgs s_Put_into) (defBody s_Put_into) (defScope s_Put_into) [] [] a_Put_into d_Put_into
  F_Put_is_number : FunD K "is_number" "Put.is_number" (defArgs s_Put_is_number) (defBody s_Put_is_number) (defScope s_Put_is_number) [] [] a_Put_is_number d_Put_is_number
  F_puts_at : FunD K "puts_at" "puts_at" (defArgs s_puts_at) (defBody s_puts_at) (defScope s_puts_at) [] [] a_puts_at d_puts_at
  g_puts_at : mg "puts_at" = some (.ref a_puts_at)
  F_any_of : FunD K "any_of" "any_of" (defArgs s_any_of) (defBody s_any_of) (defScope s_any_of) [] [] a_any_of d_any_of
  g_any_of : mg "any_of" = some (.ref a_any_of)
  F_plainly_some : FunD K "plainly_some" "plainly_some" (defArgs s_plainly_some) (defBody s_plainly_some) (defScope s_plainly_some) [] [] a_plainly_some d_plainly_some
  g_plainly_some : mg "plainly_some" = some (.ref a_plainly_some)
  F_plainly : FunD K "plainly" "plainly" (defArgs s_plainly) (defBody s_plainly) (defScope s_plainly) [] [] a_plainly d_plainly
  g_plainly : mg "plainly" = some (.ref a_plainly)
  F__law_mix : FunD K "_law_mix" "_law_mix" (defArgs s__law_mix) (defBody s__law_mix) (defScope s__law_mix) [] [] a__law_mix d__law_mix
  g__law_mix : mg "_law_mix" = some (.ref a__law_mix)
  F__law_jar : FunD K "_law_jar" "_law_jar" (defArgs s__law_jar) (defBody s__law_jar) (defScope s__law_jar) [] [] a__law_jar d__law_jar
  g__law_jar : mg "_law_jar" = some (.ref a__law_jar)
  F__law_pick : FunD K "_law_pick" "_law_pick" (defArgs s__law_pick) (defBody s__law_pick) (defScope s__law_pick) [] [] a__law_pick d__law_pick
  g__law_pick : mg "_law_pick" = some (.ref a__law_pick)
  F__law_simple : FunD K "_law_simple" "_law_simple" (defArgs s__law_simple) (defBody s__law_simple) (defScope s__law_simple) [] [] a__law_simple d__law_simple
  g__law_simple : mg "_law_simple" = some (.ref a__law_simple)
  F__law_sentence : FunD K "_law_sentence" "_law_sentence" (defArgs s__law_sentence) (defBody s__law_sentence) (defScope s__law_sentence) [] [] a__law_sentence d__law_sentence
  g__law_sentence : mg "_law_sentence" = some (.ref a__law_sentence)
  F__law_written : FunD K "_law_written" "_law_written" (defArgs s__law_written) (defBody s__law_written) (defScope s__law_written) [] [] a__law_written d__law_written
  g__law_written : mg "_law_written" = some (.ref a__law_written)
  F__law_same : FunD K "_law_same" "_law_same" (defArgs s__law_same) (defBody s__law_same) (defScope s__law_same) [] [] a__law_same d__law_same
  g__law_same : mg "_law_same" = some (.ref a__law_same)
  F_law : FunD K "law" "law" (defArgs s_law) (defBody s_law) (defScope s_law) [] [] a_law d_law
  g_law : mg "law" = some (.ref a_law)
  kd_Put_init_3 : KD K mg d_Put_init ["self", "weights", "number", "by"] 3 [] gd_Put_init_3
  kd_Put_init_3_by : KD K mg d_Put_init ["self", "weights", "number", "by"] 3 ["by"] gd_Put_init_3_by
  kd_Put_into_2 : KD K mg d_Put_into ["self", "sentence"] 2 [] gd_Put_into_2
  kd_Put_is_number_1 : KD K mg d_Put_is_number ["self"] 1 [] gd_Put_is_number_1
  kd_Put_weights_in_2 : KD K mg d_Put_weights_in ["self", "weights"] 2 [] gd_Put_weights_in_2
  kd__law_jar_1 : KD K mg d__law_jar ["script"] 1 [] gd__law_jar_1
  kd__law_mix_1 : KD K mg d__law_mix ["one"] 1 [] gd__law_mix_1
  kd__law_pick_2 : KD K mg d__law_pick ["jar", "total"] 2 [] gd__law_pick_2
  kd__law_same_2 : KD K mg d__law_same ["found", "due"] 2 [] gd__law_same_2
  kd__law_sentence_3 : KD K mg d__law_sentence ["jar", "total", "within"] 3 [] gd__law_sentence_3
  kd__law_simple_2 : KD K mg d__law_simple ["jar", "total"] 2 [] gd__law_simple_2
  kd__law_written_1 : KD K mg d__law_written ["sentence"] 1 [] gd__law_written_1
  kd_any_of_1 : KD K mg d_any_of ["sentences"] 1 [] gd_any_of_1
  kd_atoms_of_1 : KD K mg d_atoms_of ["sentence"] 1 [] gd_atoms_of_1
  kd_both_in_2 : KD K mg d_both_in ["text", "within"] 2 [] gd_both_in_2
  kd_breaking_1 : KD K mg d_breaking ["sentence"] 1 [] gd_breaking_1
  kd_common_part_2 : KD K mg d_common_part ["one", "other"] 2 [] gd_common_part_2
  kd_many_of_1 : KD K mg d_many_of ["sentence"] 1 [] gd_many_of_1
  kd_number_in_3 : KD K mg d_number_in ["word", "least", "most"] 3 [] gd_number_in_3
  kd_places_between_1 : KD K mg d_places_between ["text"] 1 [] gd_places_between_1
  kd_plainly_1 : KD K mg d_plainly ["question"] 1 [] gd_plainly_1
  kd_plainly_some_1 : KD K mg d_plainly_some ["sentence"] 1 [] gd_plainly_some_1
  kd_puts_at_2 : KD K mg d_puts_at ["atom", "wheel"] 2 [] gd_puts_at_2
  kd_read_sentence_1 : KD K mg d_read_sentence ["text"] 1 [] gd_read_sentence_1
  kd_sentence_in_2 : KD K mg d_sentence_in ["text", "within"] 2 [] gd_sentence_in_2
  kd_show_sentence_1 : KD K mg d_show_sentence ["sentence"] 1 [] gd_show_sentence_1
  kd_simple_in_1 : KD K mg d_simple_in ["text"] 1 [] gd_simple_in_1
  kd_sought_by_1 : KD K mg d_sought_by ["question"] 1 [] gd_sought_by_1
  kd_wheel_of_1 : KD K mg d_wheel_of ["sentence"] 1 [] gd_wheel_of_1
  c_Put : mg "Put" = some (.ref C_Put)
  cl_Put : Cls K C_Put
  mk_Put : Mk K C_Put a_Put_init
  m_Put_into : Meth K C_Put "into" a_Put_into
  m_Put_is_number : Meth K C_Put "is_number" a_Put_is_number
  m_Put_weights_in : Meth K C_Put "weights_in" a_Put_weights_in
  fo_parts : FldOk K mg ["Put"] "parts"
  fo_slopes : FldOk K mg ["Put"] "slopes"
  fo_start : FldOk K mg ["Put"] "start"
  v_GREATEST_BOUND : GlI mg "GREATEST_BOUND" 4
  v_GREATEST_PART : GlI mg "GREATEST_PART" 5
  v_GREATEST_WEIGHT : GlI mg "GREATEST_WEIGHT" 3
  v_MOST_WEIGHTS : GlI mg "MOST_WEIGHTS" 3
  v_MOST_WITHIN : GlI mg "MOST_WITHIN" 2
  tb_DEEPER : KTab K w mg "DEEPER" [("(", 1), (")", -1)]
  tb_NUMBERS : KTab K w mg "NUMBERS" [("least", 2), ("rest", 3)]
  n_abs : mg "abs" = none
  n_all : mg "all" = none
  n_bool : mg "bool" = none
  n_enumerate : mg "enumerate" = none
  n_int : mg "int" = none
  n_isinstance : mg "isinstance" = none
  n_len : mg "len" = none
  n_list : mg "list" = none
  n_range : mg "range" = none
  n_str : mg "str" = none
  n_tuple : mg "tuple" = none
  n_zip : mg "zip" = none
  isi_bool : IsiOk K "bool"
  isi_int : IsiOk K "int"
  isi_list : IsiOk K "list"
  isi_str : IsiOk K "str"
  isi_tuple : IsiOk K "tuple"
theorem sc_many_of : FnScope ["sentence"] ["sentence"] (defScope s_many_of) := ⟨rfl, rfl, rfl, by decide +kernel, rfl, by decide +kernel, by decide +kernel⟩
theorem sc_atoms_of : FnScope ["sentence", "part", "one"] ["sentence"] (defScope s_atoms_of) := ⟨rfl, rfl, rfl, by decide +kernel, rfl, by decide +kernel, by decide +kernel⟩
theorem sc_show_sentence : FnScope ["sentence", "word", "rest", "weights", "numbers", "one", "other", "weight", "number"] ["sentence"] (defScope s_show_sentence) := ⟨rfl, rfl, rfl, by decide +kernel, rfl, by decide +kernel, by decide +kernel⟩
theorem sc_number_in : FnScope ["word", "least", "most", "found", "number"] ["word", "least", "most"] (defScope s_number_in) := ⟨rfl, rfl, rfl, by decide +kernel, rfl, by decide +kernel, by decide +kernel⟩
theorem sc_simple_in : FnScope ["text", "word", "rest", "weights", "bound", "part", "left", "one"] ["text"] (defScope s_simple_in) := ⟨rfl, rfl, rfl, by decide +kernel, rfl, by decide +kernel, by decide +kernel⟩
theorem sc_places_between : FnScope ["text", "found", "deep", "at", "sign", "word"] ["text"] (defScope s_places_between) := ⟨rfl, rfl, rfl, by decide +kernel, rfl, by decide +kernel, by decide +kernel⟩
theorem sc_both_in : FnScope ["text", "within", "places", "at", "word", "one", "other"] ["text", "within"] (defScope s_both_in) := ⟨rfl, rfl, rfl, by decide +kernel, rfl, by decide +kernel, by decide +kernel⟩
theorem sc_sentence_in : FnScope ["text", "within", "one"] ["text", "within"] (defScope s_sentence_in) := ⟨rfl, rfl, rfl, by decide +kernel, rfl, by decide +kernel, by decide +kernel⟩
theorem sc_read_sentence : FnScope ["text", "sentence", "one"] ["text"] (defScope s_read_sentence) := ⟨rfl, rfl, rfl, by decide +kernel, rfl, by decide +kernel, by decide +kernel⟩
theorem sc_common_part : FnScope ["one", "other"] ["one", "other"] (defScope s_common_part) := ⟨rfl, rfl, rfl, by decide +kernel, rfl, by decide +kernel, by decide +kernel⟩
theorem sc_wheel_of : FnScope ["sentence", "found", "atom", "fore", "last", "one"] ["sentence"] (defScope s_wheel_of) := ⟨rfl, rfl, rfl, by decide +kernel, rfl, by decide +kernel, by decide +kernel⟩
theorem sc_breaking : FnScope ["sentence", "atom"] ["sentence"] (defScope s_breaking) := ⟨rfl, rfl, rfl, by decide +kernel, rfl, by decide +kernel, by decide +kernel⟩
theorem sc_sought_by : FnScope ["question", "word", "sentence"] ["question"] (defScope s_sought_by) := ⟨rfl, rfl, rfl, by decide +kernel, rfl, by decide +kernel, by decide +kernel⟩
theorem sc_Put_init : FnScope ["self", "weights", "number", "by"] ["self", "weights", "number", "by"] (defScope s_Put_init) := ⟨rfl, rfl, rfl, by decide +kernel, rfl, by decide +kernel, by decide +kernel⟩
theorem sc_Put_weights_in : FnScope ["self", "weights", "fore", "last", "one", "other"] ["self", "weights"] (defScope s_Put_weights_in) := ⟨rfl, rfl, rfl, by decide +kernel, rfl, by decide +kernel, by decide +kernel⟩
theorem sc_Put_into : FnScope ["self", "sentence", "word", "parts", "weights", "c", "m", "r", "wheel", "part"] ["self", "sentence"] (defScope s_Put_into) := ⟨rfl, rfl, rfl, by decide +kernel, rfl, by decide +kernel, by decide +kernel⟩
theorem sc_Put_is_number : FnScope ["self"] ["self"] (defScope s_Put_is_number) := ⟨rfl, rfl, rfl, by decide +kernel, rfl, by decide +kernel, by decide +kernel⟩
theorem sc_puts_at : FnScope ["atom", "wheel", "fore", "last", "by", "found", "rest", "when", "more", "put", "weight"] ["atom", "wheel"] (defScope s_puts_at) := ⟨rfl, rfl, rfl, by decide +kernel, rfl, by decide +kernel, by decide +kernel⟩
theorem sc_any_of : FnScope ["sentences", "odd", "one", "other"] ["sentences"] (defScope s_any_of) := ⟨rfl, rfl, rfl, by decide +kernel, rfl, by decide +kernel, by decide +kernel⟩
theorem sc_plainly_some : FnScope ["sentence", "wheel", "nought", "found", "atom", "put", "when", "more"] ["sentence"] (defScope s_plainly_some) := ⟨rfl, rfl, rfl, by decide +kernel, rfl, by decide +kernel, by decide +kernel⟩
theorem sc_plainly : FnScope ["question", "found"] ["question"] (defScope s_plainly) := ⟨rfl, rfl, rfl, by decide +kernel, rfl, by decide +kernel, by decide +kernel⟩
theorem sc__law_mix : FnScope ["one"] ["one"] (defScope s__law_mix) := ⟨rfl, rfl, rfl, by decide +kernel, rfl, by decide +kernel, by decide +kernel⟩
theorem sc__law_jar : FnScope ["script", "seed", "cell"] ["script"] (defScope s__law_jar) := ⟨rfl, rfl, rfl, by decide +kernel, rfl, by decide +kernel, by decide +kernel⟩
theorem sc__law_pick : FnScope ["jar", "total", "cell", "spun", "one", "found"] ["jar", "total"] (defScope s__law_pick) := ⟨rfl, rfl, rfl, by decide +kernel, rfl, by decide +kernel, by decide +kernel⟩
theorem sc__law_simple : FnScope ["jar", "total", "weights", "part", "gate"] ["jar", "total"] (defScope s__law_simple) := ⟨rfl, rfl, rfl, by decide +kernel, rfl, by decide +kernel, by decide +kernel⟩
theorem sc__law_sentence : FnScope ["jar", "total", "within", "form", "one"] ["jar", "total", "within"] (defScope s__law_sentence) := ⟨rfl, rfl, rfl, by decide +kernel, rfl, by decide +kernel, by decide +kernel⟩
theorem sc__law_written : FnScope ["sentence", "both", "text", "number", "one", "weight"] ["sentence"] (defScope s__law_written) := ⟨rfl, rfl, rfl, by decide +kernel, rfl, by decide +kernel, by decide +kernel⟩
theorem sc__law_same : FnScope ["found", "due", "one", "other"] ["found", "due"] (defScope s__law_same) := ⟨rfl, rfl, rfl, by decide +kernel, rfl, by decide +kernel, by decide +kernel⟩
theorem sc_law : FnScope ["script", "jar", "turn", "sentence", "text", "question", "told"] ["script"] (defScope s_law) := ⟨rfl, rfl, rfl, by decide +kernel, rfl, by decide +kernel, by decide +kernel⟩
section
variable {P : Program} {w : World} {K : PySem.W.Frag} {mg : Str → Option Value} {base : Heap} {a_many_of a_atoms_of a_show_sentence a_number_in a_simple_in a_places_between a_both_in a_sentence_in a_read_sentence a_common_part a_wheel_of a_breaking a_sought_by a_Put_init a_Put_weights_in a_Put_into a_Put_is_number a_puts_at a_any_of a_plainly_some a_plainly a__law_mix a__law_jar a__law_pick a__law_simple a__law_sentence a__law_written a__law_same a_law : Addr} {d_many_of d_atoms_of d_show_sentence d_number_in d_simple_in d_places_between d_both_in d_sentence_in d_read_sentence d_common_part d_wheel_of d_breaking d_sought_by d_Put_init d_Put_weights_in d_Put_into d_Put_is_number d_puts_at d_any_of d_plainly_some d_plainly d__law_mix d__law_jar d__law_pick d__law_simple d__law_sentence d__law_written d__law_same d_law : FuncData} {C_Put : Addr}
theorem w_many_of (T : Txt K w mg a_many_of a_atoms_of a_show_sentence a_number_in a_simple_in a_places_between a_both_in a_sentence_in a_read_sentence a_common_part a_wheel_of a_breaking a_sought_by a_Put_init a_Put_weights_in a_Put_into a_Put_is_number a_puts_at a_any_of a_plainly_some a_plainly a__law_mix a__law_jar a__law_pick a__law_simple a__law_sentence a__law_written a__law_same a_law d_many_of d_atoms_of d_show_sentence d_number_in d_simple_in d_places_between d_both_in d_sentence_in d_read_sentence d_common_part d_wheel_of d_breaking d_sought_by d_Put_init d_Put_weights_in d_Put_into d_Put_is_number d_puts_at d_any_of d_plainly_some d_plainly d__law_mix d__law_jar d__law_pick d__law_simple d__law_sentence d__law_written d__law_same d_law C_Put) {j : Nat} (cdv : Value) (A : Around) (outer : List Env) (s : Shared) (H : Hp) (E : XK) (hr : Room (j + 1) (A.deeper (envOfC "many_of" (defScope s_many_of) s.heap.objs.size a_many_of cdv))) :
    SSs (cxOf (L2.CX P w) P w K mg base ["sentence"] "many_of" (defScope s_many_of) a_many_of cdv A outer s H E) (fun c d _ H => E c d H) (B_many_of ) (defBody s_many_of) := by
  have tk : Takes (cxOf (L2.CX P w) P w K mg base ["sentence"] "many_of" (defScope s_many_of) a_many_of cdv A outer s H E) (fun c d _ H => E c d H) := takes_of rfl rfl rfl rfl
  have hp : PassesOwn (model P w) (cxOf (L2.CX P w) P w K mg base ["sentence"] "many_of" (defScope s_many_of) a_many_of cdv A outer s H E).A (cxOf (L2.CX P w) P w K mg base ["sentence"] "many_of" (defScope s_many_of) a_many_of cdv A outer s H E).env (cxOf (L2.CX P w) P w K mg base ["sentence"] "many_of" (defScope s_many_of) a_many_of cdv A outer s H E).xe := passes_of rfl
  exact ss_cons (ss_while hp (st_cmp op_notIn_seq opb_notin (se_ix (se_var (pv 0)) (se_int) (fun _ _ => rfl)) (se_tup (sa_cons (se_str) (sa_cons (se_str) (sa_nil)))) rfl) (ss_one (ss_set (ps_set (i := 0) sc_many_of.nd rfl (by first | exact Or.inl rfl | exact Or.inr rfl) (se_ix (se_var (pv 0)) (se_int) (fun _ _ => rfl)))))) <| ss_one (ss_ret (se_B call_len cs_len rfl T.n_len bt_len (sa_cons (se_ix (se_var (pv 0)) (se_int) (fun _ _ => rfl)) (sa_nil))))
theorem w_atoms_of (T : Txt K w mg a_many_of a_atoms_of a_show_sentence a_number_in a_simple_in a_places_between a_both_in a_sentence_in a_read_sentence a_common_part a_wheel_of a_breaking a_sought_by a_Put_init a_Put_weights_in a_Put_into a_Put_is_number a_puts_at a_any_of a_plainly_some a_plainly a__law_mix a__law_jar a__law_pick a__law_simple a__law_sentence a__law_written a__law_same a_law d_many_of d_atoms_of d_show_sentence d_number_in d_simple_in d_places_between d_both_in d_sentence_in d_read_sentence d_common_part d_wheel_of d_breaking d_sought_by d_Put_init d_Put_weights_in d_Put_into d_Put_is_number d_puts_at d_any_of d_plainly_some d_plainly d__law_mix d__law_jar d__law_pick d__law_simple d__law_sentence d__law_written d__law_same d_law C_Put) {j : Nat} {f_atoms_of : Fn} (F_atoms_of : FnD P w K mg base (j + 1) a_atoms_of d_atoms_of ["sentence"] f_atoms_of) (cdv : Value) (A : Around) (outer : List Env) (s : Shared) (H : Hp) (E : XK) (hr : Room (j + 1) (A.deeper (envOfC "atoms_of" (defScope s_atoms_of) s.heap.objs.size a_atoms_of cdv))) :
    SSs (cxOf (L2.CX P w) P w K mg base ["sentence", "part", "one"] "atoms_of" (defScope s_atoms_of) a_atoms_of cdv A outer s H E) (fun c d _ H => E c d H) (B_atoms_of f_atoms_of) (defBody s_atoms_of) := by
  have tk : Takes (cxOf (L2.CX P w) P w K mg base ["sentence", "part", "one"] "atoms_of" (defScope s_atoms_of) a_atoms_of cdv A outer s H E) (fun c d _ H => E c d H) := takes_of rfl rfl rfl rfl
  have hp : PassesOwn (model P w) (cxOf (L2.CX P w) P w K mg base ["sentence", "part", "one"] "atoms_of" (defScope s_atoms_of) a_atoms_of cdv A outer s H E).A (cxOf (L2.CX P w) P w K mg base ["sentence", "part", "one"] "atoms_of" (defScope s_atoms_of) a_atoms_of cdv A outer s H E).env (cxOf (L2.CX P w) P w K mg base ["sentence", "part", "one"] "atoms_of" (defScope s_atoms_of) a_atoms_of cdv A outer s H E).xe := passes_of rfl
  exact ss_cons (ss_if (st_cmp op_in_seq opb_in (se_ix (se_var (pv 0)) (se_int) (fun _ _ => rfl)) (se_tup (sa_cons (se_str) (sa_cons (se_str) (sa_nil)))) rfl) (ss_one (ss_ret (se_lst (sa_cons (se_var (pv 0)) (sa_nil))))) (ss_nil)) <| ss_one (ss_ret (se_lc2 (own := [("part", 1), ("one", 2)]) rfl sc_atoms_of.nd (si_seq (se_slice (se_var (pv 0)) (so_some (se_int)) (so_none))) (blkOk_by (N := ["sentence", "part", "one"]) (sc := defScope s_atoms_of) (own := [("part", 1), ("one", 2)]) (by decide +kernel)) (by decide) (fun _ _ _ _ _ => sg_name (pg_name (i := 1) sc_atoms_of.nd rfl (by first | exact Or.inl rfl | exact Or.inr rfl)) (by decide)) (fun _ _ _ _ _ => pts_yes) (fun _ _ _ _ _ => si_seq (se_call (ks := []) F_atoms_of hr rfl T.g_atoms_of T.F_atoms_of.kp T.kd_atoms_of_1 gl_atoms_of_1 takes0 (sa_cons (se_var (pv 1)) (sa_nil)) (sk_nil))) (fun _ _ _ _ _ => sg_name (pg_name (i := 2) sc_atoms_of.nd rfl (by first | exact Or.inl rfl | exact Or.inr rfl)) (by decide)) (fun _ _ _ _ _ => pts_yes) (fun _ _ _ _ _ => se_var (pv 2))))
theorem w_show_sentence (T : Txt K w mg a_many_of a_atoms_of a_show_sentence a_number_in a_simple_in a_places_between a_both_in a_sentence_in a_read_sentence a_common_part a_wheel_of a_breaking a_sought_by a_Put_init a_Put_weights_in a_Put_into a_Put_is_number a_puts_at a_any_of a_plainly_some a_plainly a__law_mix a__law_jar a__law_pick a__law_simple a__law_sentence a__law_written a__law_same a_law d_many_of d_atoms_of d_show_sentence d_number_in d_simple_in d_places_between d_both_in d_sentence_in d_read_sentence d_common_part d_wheel_of d_breaking d_sought_by d_Put_init d_Put_weights_in d_Put_into d_Put_is_number d_puts_at d_any_of d_plainly_some d_plainly d__law_mix d__law_jar d__law_pick d__law_simple d__law_sentence d__law_written d__law_same d_law C_Put) {j : Nat} {f_show_sentence : Fn} (F_show_sentence : FnD P w K mg base (j + 1) a_show_sentence d_show_sentence ["sentence"] f_show_sentence) (cdv : Value) (A : Around) (outer : List Env) (s : Shared) (H : Hp) (E : XK) (hr : Room (j + 1) (A.deeper (envOfC "show_sentence" (defScope s_show_sentence) s.heap.objs.size a_show_sentence cdv))) :
    SSs (cxOf (L2.CX P w) P w K mg base ["sentence", "word", "rest", "weights", "numbers", "one", "other", "weight", "number"] "show_sentence" (defScope s_show_sentence) a_show_sentence cdv A outer s H E) (fun c d _ H => E c d H) (B_show_sentence f_show_sentence) (defBody s_show_sentence) := by
  have tk : Takes (cxOf (L2.CX P w) P w K mg base ["sentence", "word", "rest", "weights", "numbers", "one", "other", "weight", "number"] "show_sentence" (defScope s_show_sentence) a_show_sentence cdv A outer s H E) (fun c d _ H => E c d H) := takes_of rfl rfl rfl rfl
  have hp : PassesOwn (model P w) (cxOf (L2.CX P w) P w K mg base ["sentence", "word", "rest", "weights", "numbers", "one", "other", "weight", "number"] "show_sentence" (defScope s_show_sentence) a_show_sentence cdv A outer s H E).A (cxOf (L2.CX P w) P w K mg base ["sentence", "word", "rest", "weights", "numbers", "one", "other", "weight", "number"] "show_sentence" (defScope s_show_sentence) a_show_sentence cdv A outer s H E).env (cxOf (L2.CX P w) P w K mg base ["sentence", "word", "rest", "weights", "numbers", "one", "other", "weight", "number"] "show_sentence" (defScope s_show_sentence) a_show_sentence cdv A outer s H E).xe := passes_of rfl
  exact ss_cons (ss_asg (sl := [1, 2]) (se_var (pv 0)) (sg_star rfl (sgs_cons (sg_name (pg_name (i := 1) sc_show_sentence.nd rfl (by first | exact Or.inl rfl | exact Or.inr rfl)) (by decide)) (sgs_consS (sg_name (pg_name (i := 2) sc_show_sentence.nd rfl (by first | exact Or.inl rfl | exact Or.inr rfl)) (by decide)) (sgs_nil))) (by decide))) <| ss_cons (ss_if (st_kin T.tb_NUMBERS rfl (se_var (pv 1))) (ss_cons (ss_asg (sl := [3, 4]) (se_var (pv 2)) (sg_star rfl (sgs_cons (sg_name (pg_name (i := 3) sc_show_sentence.nd rfl (by first | exact Or.inl rfl | exact Or.inr rfl)) (by decide)) (sgs_consS (sg_name (pg_name (i := 4) sc_show_sentence.nd rfl (by first | exact Or.inl rfl | exact Or.inr rfl)) (by decide)) (sgs_nil))) (by decide))) <| ss_one (ss_ret (se_mt PySem.F.plainAttrs_str PySem.F.slot_str_join PySem.F.type_str_join mt_join mts_join (se_str) (sa_cons (se_bin op_addA ops_add (se_lst (sa_cons (se_var (pv 1)) (sa_cons (se_mt PySem.F.plainAttrs_str PySem.F.slot_str_join PySem.F.type_str_join mt_join mts_join (se_str) (sa_cons (se_lc (own := [("weight", 7)]) rfl sc_show_sentence.nd (si_seq (se_var (pv 3))) (blkOk_by (N := ["sentence", "word", "rest", "weights", "numbers", "one", "other", "weight", "number"]) (sc := defScope s_show_sentence) (own := [("weight", 7)]) (by decide +kernel)) (fun _ _ _ _ _ => sg_name (pg_name (i := 7) sc_show_sentence.nd rfl (by first | exact Or.inl rfl | exact Or.inr rfl)) (by decide)) (fun _ _ _ _ _ => pts_yes) (fun _ _ _ _ _ => se_T call_strA cs_str rfl T.n_str bt_str (sa_cons (se_var (pv 7)) (sa_nil)))) (sa_nil))) (sa_nil)))) (se_lc (own := [("number", 8)]) rfl sc_show_sentence.nd (si_seq (se_var (pv 4))) (blkOk_by (N := ["sentence", "word", "rest", "weights", "numbers", "one", "other", "weight", "number"]) (sc := defScope s_show_sentence) (own := [("number", 8)]) (by decide +kernel)) (fun _ _ _ _ _ => sg_name (pg_name (i := 8) sc_show_sentence.nd rfl (by first | exact Or.inl rfl | exact Or.inr rfl)) (by decide)) (fun _ _ _ _ _ => pts_yes) (fun _ _ _ _ _ => se_T call_strA cs_str rfl T.n_str bt_str (sa_cons (se_var (pv 8)) (sa_nil))))) (sa_nil))))) (ss_nil)) <| ss_cons (ss_if (st_cmp (op_eqD hr.units) opb_eq (se_var (pv 1)) (se_str) (nomark _)) (ss_one (ss_ret (se_bin op_addA ops_add (se_str) (se_call (ks := []) F_show_sentence hr rfl T.g_show_sentence T.F_show_sentence.kp T.kd_show_sentence_1 gl_show_sentence_1 tk (sa_cons (se_ix (se_var (pv 2)) (se_int) (fun _ _ => rfl)) (sa_nil)) (sk_nil))))) (ss_nil)) <| ss_cons (ss_asg (sl := [5, 6]) (se_var (pv 2)) (sg_seq rfl (sgs_cons (sg_name (pg_name (i := 5) sc_show_sentence.nd rfl (by first | exact Or.inl rfl | exact Or.inr rfl)) (by decide)) (sgs_cons (sg_name (pg_name (i := 6) sc_show_sentence.nd rfl (by first | exact Or.inl rfl | exact Or.inr rfl)) (by decide)) (sgs_nil))))) <| ss_one (ss_ret (se_joined (sj_cons (se_str) (sj_cons (se_fmt (se_call (ks := []) F_show_sentence hr rfl T.g_show_sentence T.F_show_sentence.kp T.kd_show_sentence_1 gl_show_sentence_1 tk (sa_cons (se_var (pv 5)) (sa_nil)) (sk_nil))) (sj_cons (se_str) (sj_cons (se_fmt (se_var (pv 1))) (sj_cons (se_str) (sj_cons (se_fmt (se_call (ks := []) F_show_sentence hr rfl T.g_show_sentence T.F_show_sentence.kp T.kd_show_sentence_1 gl_show_sentence_1 tk (sa_cons (se_var (pv 6)) (sa_nil)) (sk_nil))) (sj_cons (se_str) (sj_nil))))))))))
theorem w_number_in (T : Txt K w mg a_many_of a_atoms_of a_show_sentence a_number_in a_simple_in a_places_between a_both_in a_sentence_in a_read_sentence a_common_part a_wheel_of a_breaking a_sought_by a_Put_init a_Put_weights_in a_Put_into a_Put_is_number a_puts_at a_any_of a_plainly_some a_plainly a__law_mix a__law_jar a__law_pick a__law_simple a__law_sentence a__law_written a__law_same a_law d_many_of d_atoms_of d_show_sentence d_number_in d_simple_in d_places_between d_both_in d_sentence_in d_read_sentence d_common_part d_wheel_of d_breaking d_sought_by d_Put_init d_Put_weights_in d_Put_into d_Put_is_number d_puts_at d_any_of d_plainly_some d_plainly d__law_mix d__law_jar d__law_pick d__law_simple d__law_sentence d__law_written d__law_same d_law C_Put) {j : Nat} (cdv : Value) (A : Around) (outer : List Env) (s : Shared) (H : Hp) (E : XK) (hr : Room (j + 1) (A.deeper (envOfC "number_in" (defScope s_number_in) s.heap.objs.size a_number_in cdv))) :
    SSs (cxOf (L2.CX P w) P w K mg base ["word", "least", "most", "found", "number"] "number_in" (defScope s_number_in) a_number_in cdv A outer s H E) (fun c d _ H => E c d H) (B_number_in ) (defBody s_number_in) := by
  have tk : Takes (cxOf (L2.CX P w) P w K mg base ["word", "least", "most", "found", "number"] "number_in" (defScope s_number_in) a_number_in cdv A outer s H E) (fun c d _ H => E c d H) := takes_of rfl rfl rfl rfl
  have hp : PassesOwn (model P w) (cxOf (L2.CX P w) P w K mg base ["word", "least", "most", "found", "number"] "number_in" (defScope s_number_in) a_number_in cdv A outer s H E).A (cxOf (L2.CX P w) P w K mg base ["word", "least", "most", "found", "number"] "number_in" (defScope s_number_in) a_number_in cdv A outer s H E).env (cxOf (L2.CX P w) P w K mg base ["word", "least", "most", "found", "number"] "number_in" (defScope s_number_in) a_number_in cdv A outer s H E).xe := passes_of rfl
  exact ss_cons (ss_lc (own := [("number", 4)]) (i := 3) rfl sc_number_in.nd rfl rfl (sw_true rfl rfl rfl (by decide +kernel)) (si_rng2 rfl T.n_range (sa_cons (se_var (pv 1)) (sa_cons (se_bin op_addA ops_add (se_var (pv 2)) (se_int)) (sa_nil)))) (blkOk_by (N := ["word", "least", "most", "found", "number"]) (sc := defScope s_number_in) (own := [("number", 4)]) (by decide +kernel)) (fun _ _ _ _ _ => sg_name (pg_name (i := 4) sc_number_in.nd rfl (by first | exact Or.inl rfl | exact Or.inr rfl)) (by decide)) (fun _ _ _ _ _ => pts_one' (st_cmp (op_eqD hr.units) opb_eq (se_T call_strA cs_str rfl T.n_str bt_str (sa_cons (se_var (pv 4)) (sa_nil))) (se_var (pv 0)) (nomark _))) (fun _ _ _ _ _ => se_var (pv 4))) <| ss_one (ss_ret (se_if (st_cmp (op_neD hr.units) opb_ne (se_var (pv 3)) (se_lst (sa_nil)) (nomark _)) (se_ix (se_var (pv 3)) (se_int) (fun _ _ => rfl)) (se_non)))
theorem w_simple_in (T : Txt K w mg a_many_of a_atoms_of a_show_sentence a_number_in a_simple_in a_places_between a_both_in a_sentence_in a_read_sentence a_common_part a_wheel_of a_breaking a_sought_by a_Put_init a_Put_weights_in a_Put_into a_Put_is_number a_puts_at a_any_of a_plainly_some a_plainly a__law_mix a__law_jar a__law_pick a__law_simple a__law_sentence a__law_written a__law_same a_law d_many_of d_atoms_of d_show_sentence d_number_in d_simple_in d_places_between d_both_in d_sentence_in d_read_sentence d_common_part d_wheel_of d_breaking d_sought_by d_Put_init d_Put_weights_in d_Put_into d_Put_is_number d_puts_at d_any_of d_plainly_some d_plainly d__law_mix d__law_jar d__law_pick d__law_simple d__law_sentence d__law_written d__law_same d_law C_Put) {j : Nat} {f_number_in : Fn} (F_number_in : FnD P w K mg base (j + 1) a_number_in d_number_in ["word", "least", "most"] f_number_in) (cdv : Value) (A : Around) (outer : List Env) (s : Shared) (H : Hp) (E : XK) (hr : Room (j + 1) (A.deeper (envOfC "simple_in" (defScope s_simple_in) s.heap.objs.size a_simple_in cdv))) :
    SSs (cxOf (L2.CX P w) P w K mg base ["text", "word", "rest", "weights", "bound", "part", "left", "one"] "simple_in" (defScope s_simple_in) a_simple_in cdv A outer s H E) (fun c d _ H => E c d H) (B_simple_in f_number_in) (defBody s_simple_in) := by
  have tk : Takes (cxOf (L2.CX P w) P w K mg base ["text", "word", "rest", "weights", "bound", "part", "left", "one"] "simple_in" (defScope s_simple_in) a_simple_in cdv A outer s H E) (fun c d _ H => E c d H) := takes_of rfl rfl rfl rfl
  have hp : PassesOwn (model P w) (cxOf (L2.CX P w) P w K mg base ["text", "word", "rest", "weights", "bound", "part", "left", "one"] "simple_in" (defScope s_simple_in) a_simple_in cdv A outer s H E).A (cxOf (L2.CX P w) P w K mg base ["text", "word", "rest", "weights", "bound", "part", "left", "one"] "simple_in" (defScope s_simple_in) a_simple_in cdv A outer s H E).env (cxOf (L2.CX P w) P w K mg base ["text", "word", "rest", "weights", "bound", "part", "left", "one"] "simple_in" (defScope s_simple_in) a_simple_in cdv A outer s H E).xe := passes_of rfl
  exact ss_cons (ss_asg (sl := [1, 2]) (se_mt PySem.F.plainAttrs_str PySem.F.slot_str_split PySem.F.type_str_split mt_split mts_split (se_var (pv 0)) (sa_cons (se_str) (sa_nil))) (sg_star rfl (sgs_cons (sg_name (pg_name (i := 1) sc_simple_in.nd rfl (by first | exact Or.inl rfl | exact Or.inr rfl)) (by decide)) (sgs_consS (sg_name (pg_name (i := 2) sc_simple_in.nd rfl (by first | exact Or.inl rfl | exact Or.inr rfl)) (by decide)) (sgs_nil))) (by decide))) <| ss_cons (ss_if (st_w (sw_or (st_cmp (op_eqD hr.units) opb_eq (se_var (pv 2)) (se_lst (sa_nil)) (nomark _)) (sw_or1 (st_cmp (op_neD hr.units) opb_ne (se_kget2 T.tb_NUMBERS rfl (se_var (pv 1)) (se_int)) (se_B call_len cs_len rfl T.n_len bt_len (sa_cons (se_var (pv 2)) (sa_nil))) (nomark _))))) (ss_one (ss_ret (se_non))) (ss_nil)) <| ss_cons (ss_set (ps_set (i := 3) sc_simple_in.nd rfl (by first | exact Or.inl rfl | exact Or.inr rfl) (se_T call_tuple_of cs_tuple rfl T.n_tuple bt_tuple (sa_cons (se_lc (own := [("one", 7)]) rfl sc_simple_in.nd (si_seq (se_mt PySem.F.plainAttrs_str PySem.F.slot_str_split PySem.F.type_str_split mt_split mts_split (se_ix (se_var (pv 2)) (se_int) (fun _ _ => rfl)) (sa_cons (se_str) (sa_nil)))) (blkOk_by (N := ["text", "word", "rest", "weights", "bound", "part", "left", "one"]) (sc := defScope s_simple_in) (own := [("one", 7)]) (by decide +kernel)) (fun _ _ _ _ _ => sg_name (pg_name (i := 7) sc_simple_in.nd rfl (by first | exact Or.inl rfl | exact Or.inr rfl)) (by decide)) (fun _ _ _ _ _ => pts_yes) (fun _ _ _ _ _ => se_call (ks := []) F_number_in hr rfl T.g_number_in T.F_number_in.kp T.kd_number_in_3 gl_number_in_3 takes0 (sa_cons (se_var (pv 7)) (sa_cons (se_un un_neg uns_neg (se_globI rfl T.v_GREATEST_WEIGHT)) (sa_cons (se_globI rfl T.v_GREATEST_WEIGHT) (sa_nil)))) (sk_nil))) (sa_nil))))) <| ss_cons (ss_if (st_w (sw_or (st_cmp op_gt opb_gt (se_B call_len cs_len rfl T.n_len bt_len (sa_cons (se_var (pv 3)) (sa_nil))) (se_globI rfl T.v_MOST_WEIGHTS) (nomark _)) (sw_or1 (st_cmp op_in_seq opb_in (se_non) (se_var (pv 3)) rfl)))) (ss_one (ss_ret (se_non))) (ss_nil)) <| ss_cons (ss_if (st_cmp (op_eqD hr.units) opb_eq (se_var (pv 1)) (se_str) (nomark _)) (ss_cons (ss_set (ps_set (i := 4) sc_simple_in.nd rfl (by first | exact Or.inl rfl | exact Or.inr rfl) (se_call (ks := []) F_number_in hr rfl T.g_number_in T.F_number_in.kp T.kd_number_in_3 gl_number_in_3 tk (sa_cons (se_ix (se_var (pv 2)) (se_int) (fun _ _ => rfl)) (sa_cons (se_un un_neg uns_neg (se_globI rfl T.v_GREATEST_BOUND)) (sa_cons (se_globI rfl T.v_GREATEST_BOUND) (sa_nil)))) (sk_nil)))) <| ss_one (ss_ret (se_if (st_cmp op_isN opb_is (se_var (pv 4)) (se_non) (nomark _)) (se_non) (se_tup (sa_cons (se_var (pv 1)) (sa_cons (se_var (pv 3)) (sa_cons (se_var (pv 4)) (sa_nil)))))))) (ss_nil)) <| ss_cons (ss_set (ps_set (i := 5) sc_simple_in.nd rfl (by first | exact Or.inl rfl | exact Or.inr rfl) (se_call (ks := []) F_number_in hr rfl T.g_number_in T.F_number_in.kp T.kd_number_in_3 gl_number_in_3 tk (sa_cons (se_ix (se_var (pv 2)) (se_int) (fun _ _ => rfl)) (sa_cons (se_int) (sa_cons (se_globI rfl T.v_GREATEST_PART) (sa_nil)))) (sk_nil)))) <| ss_cons (ss_set (ps_set (i := 6) sc_simple_in.nd rfl (by first | exact Or.inl rfl | exact Or.inr rfl) (se_if (st_cmp op_isN opb_is (se_var (pv 5)) (se_non) (nomark _)) (se_non) (se_call (ks := []) F_number_in hr rfl T.g_number_in T.F_number_in.kp T.kd_number_in_3 gl_number_in_3 tk (sa_cons (se_ix (se_var (pv 2)) (se_int) (fun _ _ => rfl)) (sa_cons (se_int) (sa_cons (se_bin op_sub ops_sub (se_var (pv 5)) (se_int)) (sa_nil)))) (sk_nil))))) <| ss_one (ss_ret (se_if (st_cmp op_isN opb_is (se_var (pv 6)) (se_non) (nomark _)) (se_non) (se_tup (sa_cons (se_var (pv 1)) (sa_cons (se_var (pv 3)) (sa_cons (se_var (pv 5)) (sa_cons (se_var (pv 6)) (sa_nil))))))))
theorem w_places_between (T : Txt K w mg a_many_of a_atoms_of a_show_sentence a_number_in a_simple_in a_places_between a_both_in a_sentence_in a_read_sentence a_common_part a_wheel_of a_breaking a_sought_by a_Put_init a_Put_weights_in a_Put_into a_Put_is_number a_puts_at a_any_of a_plainly_some a_plainly a__law_mix a__law_jar a__law_pick a__law_simple a__law_sentence a__law_written a__law_same a_law d_many_of d_atoms_of d_show_sentence d_number_in d_simple_in d_places_between d_both_in d_sentence_in d_read_sentence d_common_part d_wheel_of d_breaking d_sought_by d_Put_init d_Put_weights_in d_Put_into d_Put_is_number d_puts_at d_any_of d_plainly_some d_plainly d__law_mix d__law_jar d__law_pick d__law_simple d__law_sentence d__law_written d__law_same d_law C_Put) {j : Nat} (cdv : Value) (A : Around) (outer : List Env) (s : Shared) (H : Hp) (E : XK) (hr : Room (j + 1) (A.deeper (envOfC "places_between" (defScope s_places_between) s.heap.objs.size a_places_between cdv))) :
    SSs (cxOf (L2.CX P w) P w K mg base ["text", "found", "deep", "at", "sign", "word"] "places_between" (defScope s_places_between) a_places_between cdv A outer s H E) (fun c d _ H => E c d H) (B_places_between ) (defBody s_places_between) := by
  have tk : Takes (cxOf (L2.CX P w) P w K mg base ["text", "found", "deep", "at", "sign", "word"] "places_between" (defScope s_places_between) a_places_between cdv A outer s H E) (fun c d _ H => E c d H) := takes_of rfl rfl rfl rfl
  have hp : PassesOwn (model P w) (cxOf (L2.CX P w) P w K mg base ["text", "found", "deep", "at", "sign", "word"] "places_between" (defScope s_places_between) a_places_between cdv A outer s H E).A (cxOf (L2.CX P w) P w K mg base ["text", "found", "deep", "at", "sign", "word"] "places_between" (defScope s_places_between) a_places_between cdv A outer s H E).env (cxOf (L2.CX P w) P w K mg base ["text", "found", "deep", "at", "sign", "word"] "places_between" (defScope s_places_between) a_places_between cdv A outer s H E).xe := passes_of rfl
  exact ss_cons (ss_set (ps_set (i := 1) sc_places_between.nd rfl (by first | exact Or.inl rfl | exact Or.inr rfl) (se_lstM (sa_nil)))) <| ss_cons (ss_set (ps_set (i := 2) sc_places_between.nd rfl (by first | exact Or.inl rfl | exact Or.inr rfl) (se_int))) <| ss_cons (ss_for (sl := [3, 4]) hp rfl (si_enum rfl T.n_enumerate (sa_cons (se_var (pv 0)) (sa_nil))) (sg_seq rfl (sgs_cons (sg_name (pg_name (i := 3) sc_places_between.nd rfl (by first | exact Or.inl rfl | exact Or.inr rfl)) (by decide)) (sgs_cons (sg_name (pg_name (i := 4) sc_places_between.nd rfl (by first | exact Or.inl rfl | exact Or.inr rfl)) (by decide)) (sgs_nil)))) (ss_cons (ss_aug (i := 2) sc_places_between.nd rfl (by first | exact Or.inl rfl | exact Or.inr rfl) (se_kget2 T.tb_DEEPER rfl (se_var (pv 4)) (se_int)) iop_add ops_iadd) <| ss_one (ss_for (sl := [5]) hp rfl (si_seq (se_tup (sa_cons (se_str) (sa_cons (se_str) (sa_nil))))) (sg_name (pg_name (i := 5) sc_places_between.nd rfl (by first | exact Or.inl rfl | exact Or.inr rfl)) (by decide)) (ss_one (ss_if (st_w (sw_and (st_cmp (op_eqD hr.units) opb_eq (se_var (pv 2)) (se_int) (nomark _)) (sw_and1 (st_cmp (op_eqD hr.units) opb_eq (se_slice (se_var (pv 0)) (so_some (se_var (pv 3))) (so_some (se_bin op_addA ops_add (se_bin op_addA ops_add (se_var (pv 3)) (se_B call_len cs_len rfl T.n_len bt_len (sa_cons (se_var (pv 5)) (sa_nil)))) (se_int)))) (se_bin op_addA ops_add (se_bin op_addA ops_add (se_str) (se_var (pv 5))) (se_str)) (nomark _))))) (ss_one (ss_expr (se_mt PySem.F.plainAttrs_list slot_list_append type_list_append mt_append mts_append (se_var (pv 1)) (sa_cons (se_tup (sa_cons (se_var (pv 3)) (sa_cons (se_var (pv 5)) (sa_nil)))) (sa_nil))))) (ss_nil)))))) <| ss_one (ss_ret (se_frz (se_var (pv 1))))
theorem w_both_in (T : Txt K w mg a_many_of a_atoms_of a_show_sentence a_number_in a_simple_in a_places_between a_both_in a_sentence_in a_read_sentence a_common_part a_wheel_of a_breaking a_sought_by a_Put_init a_Put_weights_in a_Put_into a_Put_is_number a_puts_at a_any_of a_plainly_some a_plainly a__law_mix a__law_jar a__law_pick a__law_simple a__law_sentence a__law_written a__law_same a_law d_many_of d_atoms_of d_show_sentence d_number_in d_simple_in d_places_between d_both_in d_sentence_in d_read_sentence d_common_part d_wheel_of d_breaking d_sought_by d_Put_init d_Put_weights_in d_Put_into d_Put_is_number d_puts_at d_any_of d_plainly_some d_plainly d__law_mix d__law_jar d__law_pick d__law_simple d__law_sentence d__law_written d__law_same d_law C_Put) {j : Nat} {f_places_between f_sentence_in : Fn} (F_places_between : FnD P w K mg base (j + 1) a_places_between d_places_between ["text"] f_places_between) (F_sentence_in : FnD P w K mg base (j + 1) a_sentence_in d_sentence_in ["text", "within"] f_sentence_in) (cdv : Value) (A : Around) (outer : List Env) (s : Shared) (H : Hp) (E : XK) (hr : Room (j + 1) (A.deeper (envOfC "both_in" (defScope s_both_in) s.heap.objs.size a_both_in cdv))) :
    SSs (cxOf (L2.CX P w) P w K mg base ["text", "within", "places", "at", "word", "one", "other"] "both_in" (defScope s_both_in) a_both_in cdv A outer s H E) (fun c d _ H => E c d H) (B_both_in f_places_between f_sentence_in) (defBody s_both_in) := by
  have tk : Takes (cxOf (L2.CX P w) P w K mg base ["text", "within", "places", "at", "word", "one", "other"] "both_in" (defScope s_both_in) a_both_in cdv A outer s H E) (fun c d _ H => E c d H) := takes_of rfl rfl rfl rfl
  have hp : PassesOwn (model P w) (cxOf (L2.CX P w) P w K mg base ["text", "within", "places", "at", "word", "one", "other"] "both_in" (defScope s_both_in) a_both_in cdv A outer s H E).A (cxOf (L2.CX P w) P w K mg base ["text", "within", "places", "at", "word", "one", "other"] "both_in" (defScope s_both_in) a_both_in cdv A outer s H E).env (cxOf (L2.CX P w) P w K mg base ["text", "within", "places", "at", "word", "one", "other"] "both_in" (defScope s_both_in) a_both_in cdv A outer s H E).xe := passes_of rfl
  exact ss_cons (ss_set (ps_set (i := 2) sc_both_in.nd rfl (by first | exact Or.inl rfl | exact Or.inr rfl) (se_call (ks := []) F_places_between hr rfl T.g_places_between T.F_places_between.kp T.kd_places_between_1 gl_places_between_1 tk (sa_cons (se_var (pv 0)) (sa_nil)) (sk_nil)))) <| ss_cons (ss_if (st_cmp (op_neD hr.units) opb_ne (se_B call_len cs_len rfl T.n_len bt_len (sa_cons (se_var (pv 2)) (sa_nil))) (se_int) (nomark _)) (ss_one (ss_ret (se_non))) (ss_nil)) <| ss_cons (ss_asg (sl := [3, 4]) (se_ix (se_var (pv 2)) (se_int) (fun _ _ => rfl)) (sg_seq rfl (sgs_cons (sg_name (pg_name (i := 3) sc_both_in.nd rfl (by first | exact Or.inl rfl | exact Or.inr rfl)) (by decide)) (sgs_cons (sg_name (pg_name (i := 4) sc_both_in.nd rfl (by first | exact Or.inl rfl | exact Or.inr rfl)) (by decide)) (sgs_nil))))) <| ss_cons (ss_set (ps_set (i := 5) sc_both_in.nd rfl (by first | exact Or.inl rfl | exact Or.inr rfl) (se_call (ks := []) F_sentence_in hr rfl T.g_sentence_in T.F_sentence_in.kp T.kd_sentence_in_2 gl_sentence_in_2 tk (sa_cons (se_slice (se_var (pv 0)) (so_none) (so_some (se_var (pv 3)))) (sa_cons (se_bin op_addA ops_add (se_var (pv 1)) (se_int)) (sa_nil))) (sk_nil)))) <| ss_cons (ss_set (ps_set (i := 6) sc_both_in.nd rfl (by first | exact Or.inl rfl | exact Or.inr rfl) (se_call (ks := []) F_sentence_in hr rfl T.g_sentence_in T.F_sentence_in.kp T.kd_sentence_in_2 gl_sentence_in_2 tk (sa_cons (se_slice (se_var (pv 0)) (so_some (se_bin op_addA ops_add (se_bin op_addA ops_add (se_var (pv 3)) (se_B call_len cs_len rfl T.n_len bt_len (sa_cons (se_var (pv 4)) (sa_nil)))) (se_int))) (so_none)) (sa_cons (se_bin op_addA ops_add (se_var (pv 1)) (se_int)) (sa_nil))) (sk_nil)))) <| ss_one (ss_ret (se_if (st_w (sw_or (st_cmp op_isN opb_is (se_var (pv 5)) (se_non) (nomark _)) (sw_or1 (st_cmp op_isN opb_is (se_var (pv 6)) (se_non) (nomark _))))) (se_non) (se_tup (sa_cons (se_var (pv 4)) (sa_cons (se_var (pv 5)) (sa_cons (se_var (pv 6)) (sa_nil)))))))
theorem w_sentence_in (T : Txt K w mg a_many_of a_atoms_of a_show_sentence a_number_in a_simple_in a_places_between a_both_in a_sentence_in a_read_sentence a_common_part a_wheel_of a_breaking a_sought_by a_Put_init a_Put_weights_in a_Put_into a_Put_is_number a_puts_at a_any_of a_plainly_some a_plainly a__law_mix a__law_jar a__law_pick a__law_simple a__law_sentence a__law_written a__law_same a_law d_many_of d_atoms_of d_show_sentence d_number_in d_simple_in d_places_between d_both_in d_sentence_in d_read_sentence d_common_part d_wheel_of d_breaking d_sought_by d_Put_init d_Put_weights_in d_Put_into d_Put_is_number d_puts_at d_any_of d_plainly_some d_plainly d__law_mix d__law_jar d__law_pick d__law_simple d__law_sentence d__law_written d__law_same d_law C_Put) {j : Nat} {f_sentence_in f_both_in f_simple_in : Fn} (F_sentence_in : FnD P w K mg base (j + 1) a_sentence_in d_sentence_in ["text", "within"] f_sentence_in) (F_both_in : FnD P w K mg base (j + 1) a_both_in d_both_in ["text", "within"] f_both_in) (F_simple_in : FnD P w K mg base (j + 1) a_simple_in d_simple_in ["text"] f_simple_in) (cdv : Value) (A : Around) (outer : List Env) (s : Shared) (H : Hp) (E : XK) (hr : Room (j + 1) (A.deeper (envOfC "sentence_in" (defScope s_sentence_in) s.heap.objs.size a_sentence_in cdv))) :
    SSs (cxOf (L2.CX P w) P w K mg base ["text", "within", "one"] "sentence_in" (defScope s_sentence_in) a_sentence_in cdv A outer s H E) (fun c d _ H => E c d H) (B_sentence_in f_sentence_in f_both_in f_simple_in) (defBody s_sentence_in) := by
  have tk : Takes (cxOf (L2.CX P w) P w K mg base ["text", "within", "one"] "sentence_in" (defScope s_sentence_in) a_sentence_in cdv A outer s H E) (fun c d _ H => E c d H) := takes_of rfl rfl rfl rfl
  have hp : PassesOwn (model P w) (cxOf (L2.CX P w) P w K mg base ["text", "within", "one"] "sentence_in" (defScope s_sentence_in) a_sentence_in cdv A outer s H E).A (cxOf (L2.CX P w) P w K mg base ["text", "within", "one"] "sentence_in" (defScope s_sentence_in) a_sentence_in cdv A outer s H E).env (cxOf (L2.CX P w) P w K mg base ["text", "within", "one"] "sentence_in" (defScope s_sentence_in) a_sentence_in cdv A outer s H E).xe := passes_of rfl
  exact ss_cons (ss_if (st_cmp op_gt opb_gt (se_var (pv 1)) (se_globI rfl T.v_MOST_WITHIN) (nomark _)) (ss_one (ss_ret (se_non))) (ss_nil)) <| ss_cons (ss_if (st_cmp (op_eqD hr.units) opb_eq (se_slice (se_var (pv 0)) (so_none) (so_some (se_int))) (se_str) (nomark _)) (ss_cons (ss_set (ps_set (i := 2) sc_sentence_in.nd rfl (by first | exact Or.inl rfl | exact Or.inr rfl) (se_call (ks := []) F_sentence_in hr rfl T.g_sentence_in T.F_sentence_in.kp T.kd_sentence_in_2 gl_sentence_in_2 tk (sa_cons (se_slice (se_var (pv 0)) (so_some (se_int)) (so_none)) (sa_cons (se_bin op_addA ops_add (se_var (pv 1)) (se_int)) (sa_nil))) (sk_nil)))) <| ss_one (ss_ret (se_if (st_cmp op_isN opb_is (se_var (pv 2)) (se_non) (nomark _)) (se_non) (se_tup (sa_cons (se_str) (sa_cons (se_var (pv 2)) (sa_nil))))))) (ss_nil)) <| ss_cons (ss_if (st_w (sw_and (st_cmp (op_eqD hr.units) opb_eq (se_slice (se_var (pv 0)) (so_none) (so_some (se_int))) (se_str) (nomark _)) (sw_and1 (st_cmp (op_eqD hr.units) opb_eq (se_slice (se_var (pv 0)) (so_some (se_un un_neg uns_neg (se_int))) (so_none)) (se_str) (nomark _))))) (ss_one (ss_ret (se_call (ks := []) F_both_in hr rfl T.g_both_in T.F_both_in.kp T.kd_both_in_2 gl_both_in_2 tk (sa_cons (se_slice (se_var (pv 0)) (so_some (se_int)) (so_some (se_un un_neg uns_neg (se_int)))) (sa_cons (se_var (pv 1)) (sa_nil))) (sk_nil)))) (ss_nil)) <| ss_one (ss_ret (se_call (ks := []) F_simple_in hr rfl T.g_simple_in T.F_simple_in.kp T.kd_simple_in_1 gl_simple_in_1 tk (sa_cons (se_var (pv 0)) (sa_nil)) (sk_nil)))
theorem w_read_sentence (T : Txt K w mg a_many_of a_atoms_of a_show_sentence a_number_in a_simple_in a_places_between a_both_in a_sentence_in a_read_sentence a_common_part a_wheel_of a_breaking a_sought_by a_Put_init a_Put_weights_in a_Put_into a_Put_is_number a_puts_at a_any_of a_plainly_some a_plainly a__law_mix a__law_jar a__law_pick a__law_simple a__law_sentence a__law_written a__law_same a_law d_many_of d_atoms_of d_show_sentence d_number_in d_simple_in d_places_between d_both_in d_sentence_in d_read_sentence d_common_part d_wheel_of d_breaking d_sought_by d_Put_init d_Put_weights_in d_Put_into d_Put_is_number d_puts_at d_any_of d_plainly_some d_plainly d__law_mix d__law_jar d__law_pick d__law_simple d__law_sentence d__law_written d__law_same d_law C_Put) {j : Nat} {f_sentence_in f_atoms_of : Fn} (F_sentence_in : FnD P w K mg base (j + 1) a_sentence_in d_sentence_in ["text", "within"] f_sentence_in) (F_atoms_of : FnD P w K mg base (j + 1) a_atoms_of d_atoms_of ["sentence"] f_atoms_of) (cdv : Value) (A : Around) (outer : List Env) (s : Shared) (H : Hp) (E : XK) (hr : Room (j + 1) (A.deeper (envOfC "read_sentence" (defScope s_read_sentence) s.heap.objs.size a_read_sentence cdv))) :
    SSs (cxOf (L2.CX P w) P w K mg base ["text", "sentence", "one"] "read_sentence" (defScope s_read_sentence) a_read_sentence cdv A outer s H E) (fun c d _ H => E c d H) (B_read_sentence f_sentence_in f_atoms_of) (defBody s_read_sentence) := by
  have tk : Takes (cxOf (L2.CX P w) P w K mg base ["text", "sentence", "one"] "read_sentence" (defScope s_read_sentence) a_read_sentence cdv A outer s H E) (fun c d _ H => E c d H) := takes_of rfl rfl rfl rfl
  have hp : PassesOwn (model P w) (cxOf (L2.CX P w) P w K mg base ["text", "sentence", "one"] "read_sentence" (defScope s_read_sentence) a_read_sentence cdv A outer s H E).A (cxOf (L2.CX P w) P w K mg base ["text", "sentence", "one"] "read_sentence" (defScope s_read_sentence) a_read_sentence cdv A outer s H E).env (cxOf (L2.CX P w) P w K mg base ["text", "sentence", "one"] "read_sentence" (defScope s_read_sentence) a_read_sentence cdv A outer s H E).xe := passes_of rfl
  exact ss_cons (ss_set (ps_set (i := 1) sc_read_sentence.nd rfl (by first | exact Or.inl rfl | exact Or.inr rfl) (se_call (ks := []) F_sentence_in hr rfl T.g_sentence_in T.F_sentence_in.kp T.kd_sentence_in_2 gl_sentence_in_2 tk (sa_cons (se_var (pv 0)) (sa_cons (se_int) (sa_nil))) (sk_nil)))) <| ss_cons (ss_if (st_w (sw_or (st_cmp op_isN opb_is (se_var (pv 1)) (se_non) (nomark _)) (sw_or1 (st_cmp op_gt opb_gt (se_lenS (own := [("one", 2)]) rfl T.n_len rfl sc_read_sentence.nd (si_seq (se_call (ks := []) F_atoms_of hr rfl T.g_atoms_of T.F_atoms_of.kp T.kd_atoms_of_1 gl_atoms_of_1 tk (sa_cons (se_var (pv 1)) (sa_nil)) (sk_nil))) (blkOk_by (N := ["text", "sentence", "one"]) (sc := defScope s_read_sentence) (own := [("one", 2)]) (by decide +kernel)) (fun _ _ _ _ _ => sg_name (pg_name (i := 2) sc_read_sentence.nd rfl (by first | exact Or.inl rfl | exact Or.inr rfl)) (by decide)) (fun _ _ _ _ _ => pts_yes) (fun _ _ _ _ _ => se_B call_len cs_len rfl T.n_len bt_len (sa_cons (se_ix (se_var (pv 2)) (se_int) (fun _ _ => rfl)) (sa_nil)))) (se_int) (nomark _))))) (ss_one (ss_stuck)) (ss_nil)) <| ss_one (ss_ret (se_var (pv 1)))
theorem w_common_part (T : Txt K w mg a_many_of a_atoms_of a_show_sentence a_number_in a_simple_in a_places_between a_both_in a_sentence_in a_read_sentence a_common_part a_wheel_of a_breaking a_sought_by a_Put_init a_Put_weights_in a_Put_into a_Put_is_number a_puts_at a_any_of a_plainly_some a_plainly a__law_mix a__law_jar a__law_pick a__law_simple a__law_sentence a__law_written a__law_same a_law d_many_of d_atoms_of d_show_sentence d_number_in d_simple_in d_places_between d_both_in d_sentence_in d_read_sentence d_common_part d_wheel_of d_breaking d_sought_by d_Put_init d_Put_weights_in d_Put_into d_Put_is_number d_puts_at d_any_of d_plainly_some d_plainly d__law_mix d__law_jar d__law_pick d__law_simple d__law_sentence d__law_written d__law_same d_law C_Put) {j : Nat} (cdv : Value) (A : Around) (outer : List Env) (s : Shared) (H : Hp) (E : XK) (hr : Room (j + 1) (A.deeper (envOfC "common_part" (defScope s_common_part) s.heap.objs.size a_common_part cdv))) :
    SSs (cxOf (L2.CX P w) P w K mg base ["one", "other"] "common_part" (defScope s_common_part) a_common_part cdv A outer s H E) (fun c d _ H => E c d H) (B_common_part ) (defBody s_common_part) := by
  have tk : Takes (cxOf (L2.CX P w) P w K mg base ["one", "other"] "common_part" (defScope s_common_part) a_common_part cdv A outer s H E) (fun c d _ H => E c d H) := takes_of rfl rfl rfl rfl
  have hp : PassesOwn (model P w) (cxOf (L2.CX P w) P w K mg base ["one", "other"] "common_part" (defScope s_common_part) a_common_part cdv A outer s H E).A (cxOf (L2.CX P w) P w K mg base ["one", "other"] "common_part" (defScope s_common_part) a_common_part cdv A outer s H E).env (cxOf (L2.CX P w) P w K mg base ["one", "other"] "common_part" (defScope s_common_part) a_common_part cdv A outer s H E).xe := passes_of rfl
  exact ss_cons (ss_par (ps_par (i := 0) (j := 1) rfl sc_common_part.nd rfl rfl (by decide) rfl rfl (sa_cons (se_B call_abs cs_abs rfl T.n_abs bt_abs (sa_cons (se_var (pv 0)) (sa_nil))) (sa_cons (se_B call_abs cs_abs rfl T.n_abs bt_abs (sa_cons (se_var (pv 1)) (sa_nil))) (sa_nil))) rfl)) <| ss_cons (ss_while hp (st_cmp (op_neD hr.units) opb_ne (se_var (pv 1)) (se_int) (nomark _)) (ss_one (ss_par (ps_par (i := 0) (j := 1) rfl sc_common_part.nd rfl rfl (by decide) rfl rfl (sa_cons (se_var (pv 1)) (sa_cons (se_bin op_modA ops_mod (se_var (pv 0)) (se_var (pv 1))) (sa_nil))) rfl)))) <| ss_one (ss_ret (se_var (pv 0)))
theorem w_wheel_of (T : Txt K w mg a_many_of a_atoms_of a_show_sentence a_number_in a_simple_in a_places_between a_both_in a_sentence_in a_read_sentence a_common_part a_wheel_of a_breaking a_sought_by a_Put_init a_Put_weights_in a_Put_into a_Put_is_number a_puts_at a_any_of a_plainly_some a_plainly a__law_mix a__law_jar a__law_pick a__law_simple a__law_sentence a__law_written a__law_same a_law d_many_of d_atoms_of d_show_sentence d_number_in d_simple_in d_places_between d_both_in d_sentence_in d_read_sentence d_common_part d_wheel_of d_breaking d_sought_by d_Put_init d_Put_weights_in d_Put_into d_Put_is_number d_puts_at d_any_of d_plainly_some d_plainly d__law_mix d__law_jar d__law_pick d__law_simple d__law_sentence d__law_written d__law_same d_law C_Put) {j : Nat} {f_atoms_of f_common_part : Fn} (F_atoms_of : FnD P w K mg base (j + 1) a_atoms_of d_atoms_of ["sentence"] f_atoms_of) (F_common_part : FnD P w K mg base (j + 1) a_common_part d_common_part ["one", "other"] f_common_part) (cdv : Value) (A : Around) (outer : List Env) (s : Shared) (H : Hp) (E : XK) (hr : Room (j + 1) (A.deeper (envOfC "wheel_of" (defScope s_wheel_of) s.heap.objs.size a_wheel_of cdv))) :
    SSs (cxOf (L2.CX P w) P w K mg base ["sentence", "found", "atom", "fore", "last", "one"] "wheel_of" (defScope s_wheel_of) a_wheel_of cdv A outer s H E) (fun c d _ H => E c d H) (B_wheel_of f_atoms_of f_common_part) (defBody s_wheel_of) := by
  have tk : Takes (cxOf (L2.CX P w) P w K mg base ["sentence", "found", "atom", "fore", "last", "one"] "wheel_of" (defScope s_wheel_of) a_wheel_of cdv A outer s H E) (fun c d _ H => E c d H) := takes_of rfl rfl rfl rfl
  have hp : PassesOwn (model P w) (cxOf (L2.CX P w) P w K mg base ["sentence", "found", "atom", "fore", "last", "one"] "wheel_of" (defScope s_wheel_of) a_wheel_of cdv A outer s H E).A (cxOf (L2.CX P w) P w K mg base ["sentence", "found", "atom", "fore", "last", "one"] "wheel_of" (defScope s_wheel_of) a_wheel_of cdv A outer s H E).env (cxOf (L2.CX P w) P w K mg base ["sentence", "found", "atom", "fore", "last", "one"] "wheel_of" (defScope s_wheel_of) a_wheel_of cdv A outer s H E).xe := passes_of rfl
  exact ss_cons (ss_set (ps_set (i := 1) sc_wheel_of.nd rfl (by first | exact Or.inl rfl | exact Or.inr rfl) (se_int))) <| ss_cons (ss_for (sl := [2]) hp rfl (si_seq (se_call (ks := []) F_atoms_of hr rfl T.g_atoms_of T.F_atoms_of.kp T.kd_atoms_of_1 gl_atoms_of_1 tk (sa_cons (se_var (pv 0)) (sa_nil)) (sk_nil))) (sg_name (pg_name (i := 2) sc_wheel_of.nd rfl (by first | exact Or.inl rfl | exact Or.inr rfl)) (by decide)) (ss_one (ss_if (st_cmp (op_eqD hr.units) opb_eq (se_ix (se_var (pv 2)) (se_int) (fun _ _ => rfl)) (se_str) (nomark _)) (ss_cons (ss_asg (sl := [4, 3]) (se_ix (se_var (pv 2)) (se_int) (fun _ _ => rfl)) (sg_star rfl (sgs_consS (sg_name (pg_name (i := 3) sc_wheel_of.nd rfl (by first | exact Or.inl rfl | exact Or.inr rfl)) (by decide)) (sgs_cons (sg_name (pg_name (i := 4) sc_wheel_of.nd rfl (by first | exact Or.inl rfl | exact Or.inr rfl)) (by decide)) (sgs_nil))) (by decide))) <| ss_cons (ss_set (ps_set (i := 5) sc_wheel_of.nd rfl (by first | exact Or.inl rfl | exact Or.inr rfl) (se_bin op_fdivA ops_div (se_ix (se_var (pv 2)) (se_int) (fun _ _ => rfl)) (se_call (ks := []) F_common_part hr rfl T.g_common_part T.F_common_part.kp T.kd_common_part_2 gl_common_part_2 tk (sa_cons (se_ix (se_var (pv 2)) (se_int) (fun _ _ => rfl)) (sa_cons (se_var (pv 4)) (sa_nil))) (sk_nil))))) <| ss_one (ss_set (ps_set (i := 1) sc_wheel_of.nd rfl (by first | exact Or.inl rfl | exact Or.inr rfl) (se_bin op_fdivA ops_div (se_bin op_mulB ops_mul (se_var (pv 1)) (se_var (pv 5))) (se_call (ks := []) F_common_part hr rfl T.g_common_part T.F_common_part.kp T.kd_common_part_2 gl_common_part_2 tk (sa_cons (se_var (pv 1)) (sa_cons (se_var (pv 5)) (sa_nil))) (sk_nil)))))) (ss_nil)))) <| ss_one (ss_ret (se_var (pv 1)))
theorem w_breaking (T : Txt K w mg a_many_of a_atoms_of a_show_sentence a_number_in a_simple_in a_places_between a_both_in a_sentence_in a_read_sentence a_common_part a_wheel_of a_breaking a_sought_by a_Put_init a_Put_weights_in a_Put_into a_Put_is_number a_puts_at a_any_of a_plainly_some a_plainly a__law_mix a__law_jar a__law_pick a__law_simple a__law_sentence a__law_written a__law_same a_law d_many_of d_atoms_of d_show_sentence d_number_in d_simple_in d_places_between d_both_in d_sentence_in d_read_sentence d_common_part d_wheel_of d_breaking d_sought_by d_Put_init d_Put_weights_in d_Put_into d_Put_is_number d_puts_at d_any_of d_plainly_some d_plainly d__law_mix d__law_jar d__law_pick d__law_simple d__law_sentence d__law_written d__law_same d_law C_Put) {j : Nat} {f_atoms_of : Fn} (F_atoms_of : FnD P w K mg base (j + 1) a_atoms_of d_atoms_of ["sentence"] f_atoms_of) (cdv : Value) (A : Around) (outer : List Env) (s : Shared) (H : Hp) (E : XK) (hr : Room (j + 1) (A.deeper (envOfC "breaking" (defScope s_breaking) s.heap.objs.size a_breaking cdv))) :
    SSs (cxOf (L2.CX P w) P w K mg base ["sentence", "atom"] "breaking" (defScope s_breaking) a_breaking cdv A outer s H E) (fun c d _ H => E c d H) (B_breaking f_atoms_of) (defBody s_breaking) := by
  have tk : Takes (cxOf (L2.CX P w) P w K mg base ["sentence", "atom"] "breaking" (defScope s_breaking) a_breaking cdv A outer s H E) (fun c d _ H => E c d H) := takes_of rfl rfl rfl rfl
  have hp : PassesOwn (model P w) (cxOf (L2.CX P w) P w K mg base ["sentence", "atom"] "breaking" (defScope s_breaking) a_breaking cdv A outer s H E).A (cxOf (L2.CX P w) P w K mg base ["sentence", "atom"] "breaking" (defScope s_breaking) a_breaking cdv A outer s H E).env (cxOf (L2.CX P w) P w K mg base ["sentence", "atom"] "breaking" (defScope s_breaking) a_breaking cdv A outer s H E).xe := passes_of rfl
  exact ss_one (ss_ret (se_lc (own := [("atom", 1)]) rfl sc_breaking.nd (si_seq (se_call (ks := []) F_atoms_of hr rfl T.g_atoms_of T.F_atoms_of.kp T.kd_atoms_of_1 gl_atoms_of_1 tk (sa_cons (se_var (pv 0)) (sa_nil)) (sk_nil))) (blkOk_by (N := ["sentence", "atom"]) (sc := defScope s_breaking) (own := [("atom", 1)]) (by decide +kernel)) (fun _ _ _ _ _ => sg_name (pg_name (i := 1) sc_breaking.nd rfl (by first | exact Or.inl rfl | exact Or.inr rfl)) (by decide)) (fun _ _ _ _ _ => pts_one' (st_w (sw_and (st_cmp (op_eqD hr.units) opb_eq (se_ix (se_var (pv 1)) (se_int) (fun _ _ => rfl)) (se_str) (nomark _)) (sw_and1 (st_cmp (op_neD hr.units) opb_ne (se_ix (se_ix (se_var (pv 1)) (se_int) (fun _ _ => rfl)) (se_un un_neg uns_neg (se_int)) (fun _ _ => rfl)) (se_int) (nomark _)))))) (fun _ _ _ _ _ => se_var (pv 1))))
theorem w_sought_by (T : Txt K w mg a_many_of a_atoms_of a_show_sentence a_number_in a_simple_in a_places_between a_both_in a_sentence_in a_read_sentence a_common_part a_wheel_of a_breaking a_sought_by a_Put_init a_Put_weights_in a_Put_into a_Put_is_number a_puts_at a_any_of a_plainly_some a_plainly a__law_mix a__law_jar a__law_pick a__law_simple a__law_sentence a__law_written a__law_same a_law d_many_of d_atoms_of d_show_sentence d_number_in d_simple_in d_places_between d_both_in d_sentence_in d_read_sentence d_common_part d_wheel_of d_breaking d_sought_by d_Put_init d_Put_weights_in d_Put_into d_Put_is_number d_puts_at d_any_of d_plainly_some d_plainly d__law_mix d__law_jar d__law_pick d__law_simple d__law_sentence d__law_written d__law_same d_law C_Put) {j : Nat} (cdv : Value) (A : Around) (outer : List Env) (s : Shared) (H : Hp) (E : XK) (hr : Room (j + 1) (A.deeper (envOfC "sought_by" (defScope s_sought_by) s.heap.objs.size a_sought_by cdv))) :
    SSs (cxOf (L2.CX P w) P w K mg base ["question", "word", "sentence"] "sought_by" (defScope s_sought_by) a_sought_by cdv A outer s H E) (fun c d _ H => E c d H) (B_sought_by ) (defBody s_sought_by) := by
  have tk : Takes (cxOf (L2.CX P w) P w K mg base ["question", "word", "sentence"] "sought_by" (defScope s_sought_by) a_sought_by cdv A outer s H E) (fun c d _ H => E c d H) := takes_of rfl rfl rfl rfl
  have hp : PassesOwn (model P w) (cxOf (L2.CX P w) P w K mg base ["question", "word", "sentence"] "sought_by" (defScope s_sought_by) a_sought_by cdv A outer s H E).A (cxOf (L2.CX P w) P w K mg base ["question", "word", "sentence"] "sought_by" (defScope s_sought_by) a_sought_by cdv A outer s H E).env (cxOf (L2.CX P w) P w K mg base ["question", "word", "sentence"] "sought_by" (defScope s_sought_by) a_sought_by cdv A outer s H E).xe := passes_of rfl
  exact ss_cons (ss_asg (sl := [1, 2]) (se_var (pv 0)) (sg_seq rfl (sgs_cons (sg_name (pg_name (i := 1) sc_sought_by.nd rfl (by first | exact Or.inl rfl | exact Or.inr rfl)) (by decide)) (sgs_cons (sg_name (pg_name (i := 2) sc_sought_by.nd rfl (by first | exact Or.inl rfl | exact Or.inr rfl)) (by decide)) (sgs_nil))))) <| ss_one (ss_ret (se_if (st_cmp (op_eqD hr.units) opb_eq (se_var (pv 1)) (se_str) (nomark _)) (se_var (pv 2)) (se_tup (sa_cons (se_str) (sa_cons (se_var (pv 2)) (sa_nil))))))
theorem w_Put_init (T : Txt K w mg a_many_of a_atoms_of a_show_sentence a_number_in a_simple_in a_places_between a_both_in a_sentence_in a_read_sentence a_common_part a_wheel_of a_breaking a_sought_by a_Put_init a_Put_weights_in a_Put_into a_Put_is_number a_puts_at a_any_of a_plainly_some a_plainly a__law_mix a__law_jar a__law_pick a__law_simple a__law_sentence a__law_written a__law_same a_law d_many_of d_atoms_of d_show_sentence d_number_in d_simple_in d_places_between d_both_in d_sentence_in d_read_sentence d_common_part d_wheel_of d_breaking d_sought_by d_Put_init d_Put_weights_in d_Put_into d_Put_is_number d_puts_at d_any_of d_plainly_some d_plainly d__law_mix d__law_jar d__law_pick d__law_simple d__law_sentence d__law_written d__law_same d_law C_Put) {j : Nat} (cdv : Value) (A : Around) (outer : List Env) (s : Shared) (H : Hp) (E : XK) (hr : Room (j + 1) (A.deeper (envOfC "Put.__init__" (defScope s_Put_init) s.heap.objs.size a_Put_init cdv))) :
    SSs (cxOf (L2.CX P w) P w K mg base ["self", "weights", "number", "by"] "Put.__init__" (defScope s_Put_init) a_Put_init cdv A outer s H E) (fun c d _ H => E c d H) (B_Put_init ) (defBody s_Put_init) := by
  have tk : Takes (cxOf (L2.CX P w) P w K mg base ["self", "weights", "number", "by"] "Put.__init__" (defScope s_Put_init) a_Put_init cdv A outer s H E) (fun c d _ H => E c d H) := takes_of rfl rfl rfl rfl
  have hp : PassesOwn (model P w) (cxOf (L2.CX P w) P w K mg base ["self", "weights", "number", "by"] "Put.__init__" (defScope s_Put_init) a_Put_init cdv A outer s H E).A (cxOf (L2.CX P w) P w K mg base ["self", "weights", "number", "by"] "Put.__init__" (defScope s_Put_init) a_Put_init cdv A outer s H E).env (cxOf (L2.CX P w) P w K mg base ["self", "weights", "number", "by"] "Put.__init__" (defScope s_Put_init) a_Put_init cdv A outer s H E).xe := passes_of rfl
  exact ss_cons (ss_setF T.fo_slopes (se_var (pv 0)) (se_var (pv 1))) <| ss_cons (ss_setF T.fo_start (se_var (pv 0)) (se_var (pv 2))) <| ss_one (ss_setF T.fo_parts (se_var (pv 0)) (se_var (pv 3)))
theorem w_Put_weights_in (T : Txt K w mg a_many_of a_atoms_of a_show_sentence a_number_in a_simple_in a_places_between a_both_in a_sentence_in a_read_sentence a_common_part a_wheel_of a_breaking a_sought_by a_Put_init a_Put_weights_in a_Put_into a_Put_is_number a_puts_at a_any_of a_plainly_some a_plainly a__law_mix a__law_jar a__law_pick a__law_simple a__law_sentence a__law_written a__law_same a_law d_many_of d_atoms_of d_show_sentence d_number_in d_simple_in d_places_between d_both_in d_sentence_in d_read_sentence d_common_part d_wheel_of d_breaking d_sought_by d_Put_init d_Put_weights_in d_Put_into d_Put_is_number d_puts_at d_any_of d_plainly_some d_plainly d__law_mix d__law_jar d__law_pick d__law_simple d__law_sentence d__law_written d__law_same d_law C_Put) {j : Nat} (cdv : Value) (A : Around) (outer : List Env) (s : Shared) (H : Hp) (E : XK) (hr : Room (j + 1) (A.deeper (envOfC "Put.weights_in" (defScope s_Put_weights_in) s.heap.objs.size a_Put_weights_in cdv))) :
    SSs (cxOf (L2.CX P w) P w K mg base ["self", "weights", "fore", "last", "one", "other"] "Put.weights_in" (defScope s_Put_weights_in) a_Put_weights_in cdv A outer s H E) (fun c d _ H => E c d H) (B_Put_weights_in ) (defBody s_Put_weights_in) := by
  have tk : Takes (cxOf (L2.CX P w) P w K mg base ["self", "weights", "fore", "last", "one", "other"] "Put.weights_in" (defScope s_Put_weights_in) a_Put_weights_in cdv A outer s H E) (fun c d _ H => E c d H) := takes_of rfl rfl rfl rfl
  have hp : PassesOwn (model P w) (cxOf (L2.CX P w) P w K mg base ["self", "weights", "fore", "last", "one", "other"] "Put.weights_in" (defScope s_Put_weights_in) a_Put_weights_in cdv A outer s H E).A (cxOf (L2.CX P w) P w K mg base ["self", "weights", "fore", "last", "one", "other"] "Put.weights_in" (defScope s_Put_weights_in) a_Put_weights_in cdv A outer s H E).env (cxOf (L2.CX P w) P w K mg base ["self", "weights", "fore", "last", "one", "other"] "Put.weights_in" (defScope s_Put_weights_in) a_Put_weights_in cdv A outer s H E).xe := passes_of rfl
  exact ss_cons (ss_asg (sl := [3, 2]) (se_var (pv 1)) (sg_star rfl (sgs_consS (sg_name (pg_name (i := 2) sc_Put_weights_in.nd rfl (by first | exact Or.inl rfl | exact Or.inr rfl)) (by decide)) (sgs_cons (sg_name (pg_name (i := 3) sc_Put_weights_in.nd rfl (by first | exact Or.inl rfl | exact Or.inr rfl)) (by decide)) (sgs_nil))) (by decide))) <| ss_one (ss_ret (se_T call_tuple_of cs_tuple rfl T.n_tuple bt_tuple (sa_cons (se_lc (own := [("one", 4), ("other", 5)]) rfl sc_Put_weights_in.nd (si_zipS rfl T.n_zip (sa_cons (se_var (pv 2)) (sa_cons (se_fld T.fo_slopes (se_var (pv 0)) rfl) (sa_nil)))) (blkOk_by (N := ["self", "weights", "fore", "last", "one", "other"]) (sc := defScope s_Put_weights_in) (own := [("one", 4), ("other", 5)]) (by decide +kernel)) (fun _ _ _ _ _ => sg_seq rfl (sgs_cons (sg_name (pg_name (i := 4) sc_Put_weights_in.nd rfl (by first | exact Or.inl rfl | exact Or.inr rfl)) (by decide)) (sgs_cons (sg_name (pg_name (i := 5) sc_Put_weights_in.nd rfl (by first | exact Or.inl rfl | exact Or.inr rfl)) (by decide)) (sgs_nil)))) (fun _ _ _ _ _ => pts_yes) (fun _ _ _ _ _ => se_bin op_addA ops_add (se_bin op_mulB ops_mul (se_fld T.fo_parts (se_var (pv 0)) rfl) (se_var (pv 4))) (se_bin op_mulB ops_mul (se_var (pv 3)) (se_var (pv 5))))) (sa_nil))))
theorem w_Put_into (T : Txt K w mg a_many_of a_atoms_of a_show_sentence a_number_in a_simple_in a_places_between a_both_in a_sentence_in a_read_sentence a_common_part a_wheel_of a_breaking a_sought_by a_Put_init a_Put_weights_in a_Put_into a_Put_is_number a_puts_at a_any_of a_plainly_some a_plainly a__law_mix a__law_jar a__law_pick a__law_simple a__law_sentence a__law_written a__law_same a_law d_many_of d_atoms_of d_show_sentence d_number_in d_simple_in d_places_between d_both_in d_sentence_in d_read_sentence d_common_part d_wheel_of d_breaking d_sought_by d_Put_init d_Put_weights_in d_Put_into d_Put_is_number d_puts_at d_any_of d_plainly_some d_plainly d__law_mix d__law_jar d__law_pick d__law_simple d__law_sentence d__law_written d__law_same d_law C_Put) {j : Nat} {f_Put_weights_in f_Put_into : Fn} (F_Put_weights_in : FnD P w K mg base (j + 1) a_Put_weights_in d_Put_weights_in ["self", "weights"] f_Put_weights_in) (F_Put_into : FnD P w K mg base (j + 1) a_Put_into d_Put_into ["self", "sentence"] f_Put_into) (cdv : Value) (A : Around) (outer : List Env) (s : Shared) (H : Hp) (E : XK) (hr : Room (j + 1) (A.deeper (envOfC "Put.into" (defScope s_Put_into) s.heap.objs.size a_Put_into cdv))) :
    SSs (cxOf (L2.CX P w) P w K mg base ["self", "sentence", "word", "parts", "weights", "c", "m", "r", "wheel", "part"] "Put.into" (defScope s_Put_into) a_Put_into cdv A outer s H E) (fun c d _ H => E c d H) (B_Put_into f_Put_weights_in f_Put_into) (defBody s_Put_into) := by
  have tk : Takes (cxOf (L2.CX P w) P w K mg base ["self", "sentence", "word", "parts", "weights", "c", "m", "r", "wheel", "part"] "Put.into" (defScope s_Put_into) a_Put_into cdv A outer s H E) (fun c d _ H => E c d H) := takes_of rfl rfl rfl rfl
  have hp : PassesOwn (model P w) (cxOf (L2.CX P w) P w K mg base ["self", "sentence", "word", "parts", "weights", "c", "m", "r", "wheel", "part"] "Put.into" (defScope s_Put_into) a_Put_into cdv A outer s H E).A (cxOf (L2.CX P w) P w K mg base ["self", "sentence", "word", "parts", "weights", "c", "m", "r", "wheel", "part"] "Put.into" (defScope s_Put_into) a_Put_into cdv A outer s H E).env (cxOf (L2.CX P w) P w K mg base ["self", "sentence", "word", "parts", "weights", "c", "m", "r", "wheel", "part"] "Put.into" (defScope s_Put_into) a_Put_into cdv A outer s H E).xe := passes_of rfl
  exact ss_cons (ss_asg (sl := [2, 3]) (se_var (pv 1)) (sg_star rfl (sgs_cons (sg_name (pg_name (i := 2) sc_Put_into.nd rfl (by first | exact Or.inl rfl | exact Or.inr rfl)) (by decide)) (sgs_consS (sg_name (pg_name (i := 3) sc_Put_into.nd rfl (by first | exact Or.inl rfl | exact Or.inr rfl)) (by decide)) (sgs_nil))) (by decide))) <| ss_cons (ss_if (st_cmp (op_eqD hr.units) opb_eq (se_var (pv 2)) (se_str) (nomark _)) (ss_cons (ss_asg (sl := [4, 5]) (se_var (pv 3)) (sg_seq rfl (sgs_cons (sg_name (pg_name (i := 4) sc_Put_into.nd rfl (by first | exact Or.inl rfl | exact Or.inr rfl)) (by decide)) (sgs_cons (sg_name (pg_name (i := 5) sc_Put_into.nd rfl (by first | exact Or.inl rfl | exact Or.inr rfl)) (by decide)) (sgs_nil))))) <| ss_one (ss_ret (se_tup (sa_cons (se_str) (sa_cons (se_meth (ks := []) (pl := _) T.c_Put T.cl_Put T.m_Put_weights_in F_Put_weights_in hr T.kd_Put_weights_in_2 gl_Put_weights_in_2 tk (se_var (pv 0)) (sa_cons (se_var (pv 4)) (sa_nil)) (sk_nil)) (sa_cons (se_bin op_sub ops_sub (se_bin op_mulB ops_mul (se_fld T.fo_parts (se_var (pv 0)) rfl) (se_var (pv 5))) (se_bin op_mulB ops_mul (se_ix (se_var (pv 4)) (se_un un_neg uns_neg (se_int)) (fun _ _ => rfl)) (se_fld T.fo_start (se_var (pv 0)) rfl))) (sa_nil))))))) (ss_nil)) <| ss_cons (ss_if (st_cmp (op_eqD hr.units) opb_eq (se_var (pv 2)) (se_str) (nomark _)) (ss_cons (ss_asg (sl := [4, 6, 7]) (se_var (pv 3)) (sg_seq rfl (sgs_cons (sg_name (pg_name (i := 4) sc_Put_into.nd rfl (by first | exact Or.inl rfl | exact Or.inr rfl)) (by decide)) (sgs_cons (sg_name (pg_name (i := 6) sc_Put_into.nd rfl (by first | exact Or.inl rfl | exact Or.inr rfl)) (by decide)) (sgs_cons (sg_name (pg_name (i := 7) sc_Put_into.nd rfl (by first | exact Or.inl rfl | exact Or.inr rfl)) (by decide)) (sgs_nil)))))) <| ss_cons (ss_set (ps_set (i := 8) sc_Put_into.nd rfl (by first | exact Or.inl rfl | exact Or.inr rfl) (se_bin op_mulB ops_mul (se_fld T.fo_parts (se_var (pv 0)) rfl) (se_var (pv 6))))) <| ss_one (ss_ret (se_tup (sa_cons (se_str) (sa_cons (se_meth (ks := []) (pl := _) T.c_Put T.cl_Put T.m_Put_weights_in F_Put_weights_in hr T.kd_Put_weights_in_2 gl_Put_weights_in_2 tk (se_var (pv 0)) (sa_cons (se_var (pv 4)) (sa_nil)) (sk_nil)) (sa_cons (se_var (pv 8)) (sa_cons (se_bin op_modA ops_mod (se_bin op_sub ops_sub (se_bin op_mulB ops_mul (se_fld T.fo_parts (se_var (pv 0)) rfl) (se_var (pv 7))) (se_bin op_mulB ops_mul (se_ix (se_var (pv 4)) (se_un un_neg uns_neg (se_int)) (fun _ _ => rfl)) (se_fld T.fo_start (se_var (pv 0)) rfl))) (se_var (pv 8))) (sa_nil)))))))) (ss_nil)) <| ss_one (ss_ret (se_bin op_addA ops_add (se_tup (sa_cons (se_var (pv 2)) (sa_nil))) (se_T call_tuple_of cs_tuple rfl T.n_tuple bt_tuple (sa_cons (se_lc (own := [("part", 9)]) rfl sc_Put_into.nd (si_seq (se_var (pv 3))) (blkOk_by (N := ["self", "sentence", "word", "parts", "weights", "c", "m", "r", "wheel", "part"]) (sc := defScope s_Put_into) (own := [("part", 9)]) (by decide +kernel)) (fun _ _ _ _ _ => sg_name (pg_name (i := 9) sc_Put_into.nd rfl (by first | exact Or.inl rfl | exact Or.inr rfl)) (by decide)) (fun _ _ _ _ _ => pts_yes) (fun _ _ _ _ _ => se_meth (ks := []) (pl := _) T.c_Put T.cl_Put T.m_Put_into F_Put_into hr T.kd_Put_into_2 gl_Put_into_2 takes0 (se_var (pv 0)) (sa_cons (se_var (pv 9)) (sa_nil)) (sk_nil))) (sa_nil)))))
theorem w_Put_is_number (T : Txt K w mg a_many_of a_atoms_of a_show_sentence a_number_in a_simple_in a_places_between a_both_in a_sentence_in a_read_sentence a_common_part a_wheel_of a_breaking a_sought_by a_Put_init a_Put_weights_in a_Put_into a_Put_is_number a_puts_at a_any_of a_plainly_some a_plainly a__law_mix a__law_jar a__law_pick a__law_simple a__law_sentence a__law_written a__law_same a_law d_many_of d_atoms_of d_show_sentence d_number_in d_simple_in d_places_between d_both_in d_sentence_in d_read_sentence d_common_part d_wheel_of d_breaking d_sought_by d_Put_init d_Put_weights_in d_Put_into d_Put_is_number d_puts_at d_any_of d_plainly_some d_plainly d__law_mix d__law_jar d__law_pick d__law_simple d__law_sentence d__law_written d__law_same d_law C_Put) {j : Nat} (cdv : Value) (A : Around) (outer : List Env) (s : Shared) (H : Hp) (E : XK) (hr : Room (j + 1) (A.deeper (envOfC "Put.is_number" (defScope s_Put_is_number) s.heap.objs.size a_Put_is_number cdv))) :
    SSs (cxOf (L2.CX P w) P w K mg base ["self"] "Put.is_number" (defScope s_Put_is_number) a_Put_is_number cdv A outer s H E) (fun c d _ H => E c d H) (B_Put_is_number ) (defBody s_Put_is_number) := by
  have tk : Takes (cxOf (L2.CX P w) P w K mg base ["self"] "Put.is_number" (defScope s_Put_is_number) a_Put_is_number cdv A outer s H E) (fun c d _ H => E c d H) := takes_of rfl rfl rfl rfl
  have hp : PassesOwn (model P w) (cxOf (L2.CX P w) P w K mg base ["self"] "Put.is_number" (defScope s_Put_is_number) a_Put_is_number cdv A outer s H E).A (cxOf (L2.CX P w) P w K mg base ["self"] "Put.is_number" (defScope s_Put_is_number) a_Put_is_number cdv A outer s H E).env (cxOf (L2.CX P w) P w K mg base ["self"] "Put.is_number" (defScope s_Put_is_number) a_Put_is_number cdv A outer s H E).xe := passes_of rfl
  exact ss_one (ss_ret (se_tup (sa_cons (se_str) (sa_cons (se_fld T.fo_slopes (se_var (pv 0)) rfl) (sa_cons (se_un un_neg uns_neg (se_fld T.fo_start (se_var (pv 0)) rfl)) (sa_nil))))))
theorem w_puts_at (T : Txt K w mg a_many_of a_atoms_of a_show_sentence a_number_in a_simple_in a_places_between a_both_in a_sentence_in a_read_sentence a_common_part a_wheel_of a_breaking a_sought_by a_Put_init a_Put_weights_in a_Put_into a_Put_is_number a_puts_at a_any_of a_plainly_some a_plainly a__law_mix a__law_jar a__law_pick a__law_simple a__law_sentence a__law_written a__law_same a_law d_many_of d_atoms_of d_show_sentence d_number_in d_simple_in d_places_between d_both_in d_sentence_in d_read_sentence d_common_part d_wheel_of d_breaking d_sought_by d_Put_init d_Put_weights_in d_Put_into d_Put_is_number d_puts_at d_any_of d_plainly_some d_plainly d__law_mix d__law_jar d__law_pick d__law_simple d__law_sentence d__law_written d__law_same d_law C_Put) {j : Nat} {f_Put_init : Fn} (F_Put_init : FnD P w K mg base j a_Put_init d_Put_init ["self", "weights", "number", "by"] f_Put_init) (cdv : Value) (A : Around) (outer : List Env) (s : Shared) (H : Hp) (E : XK) (hr : Room (j + 1) (A.deeper (envOfC "puts_at" (defScope s_puts_at) s.heap.objs.size a_puts_at cdv))) :
    SSs (cxOf (L2.CX P w) P w K mg base ["atom", "wheel", "fore", "last", "by", "found", "rest", "when", "more", "put", "weight"] "puts_at" (defScope s_puts_at) a_puts_at cdv A outer s H E) (fun c d _ H => E c d H) (B_puts_at f_Put_init) (defBody s_puts_at) := by
  have tk : Takes (cxOf (L2.CX P w) P w K mg base ["atom", "wheel", "fore", "last", "by", "found", "rest", "when", "more", "put", "weight"] "puts_at" (defScope s_puts_at) a_puts_at cdv A outer s H E) (fun c d _ H => E c d H) := takes_of rfl rfl rfl rfl
  have hp : PassesOwn (model P w) (cxOf (L2.CX P w) P w K mg base ["atom", "wheel", "fore", "last", "by", "found", "rest", "when", "more", "put", "weight"] "puts_at" (defScope s_puts_at) a_puts_at cdv A outer s H E).A (cxOf (L2.CX P w) P w K mg base ["atom", "wheel", "fore", "last", "by", "found", "rest", "when", "more", "put", "weight"] "puts_at" (defScope s_puts_at) a_puts_at cdv A outer s H E).env (cxOf (L2.CX P w) P w K mg base ["atom", "wheel", "fore", "last", "by", "found", "rest", "when", "more", "put", "weight"] "puts_at" (defScope s_puts_at) a_puts_at cdv A outer s H E).xe := passes_of rfl
  exact ss_cons (ss_asg (sl := [3, 2]) (se_ix (se_var (pv 0)) (se_int) (fun _ _ => rfl)) (sg_star rfl (sgs_consS (sg_name (pg_name (i := 2) sc_puts_at.nd rfl (by first | exact Or.inl rfl | exact Or.inr rfl)) (by decide)) (sgs_cons (sg_name (pg_name (i := 3) sc_puts_at.nd rfl (by first | exact Or.inl rfl | exact Or.inr rfl)) (by decide)) (sgs_nil))) (by decide))) <| ss_cons (ss_set (ps_set (i := 4) sc_puts_at.nd rfl (by first | exact Or.inl rfl | exact Or.inr rfl) (se_B call_abs cs_abs rfl T.n_abs bt_abs (sa_cons (se_var (pv 3)) (sa_nil))))) <| ss_cons (ss_set (ps_set (i := 5) sc_puts_at.nd rfl (by first | exact Or.inl rfl | exact Or.inr rfl) (se_lstM (sa_nil)))) <| ss_cons (ss_for (sl := [6]) hp rfl (si_rng1 rfl T.n_range (sa_cons (se_var (pv 4)) (sa_nil))) (sg_name (pg_name (i := 6) sc_puts_at.nd rfl (by first | exact Or.inl rfl | exact Or.inr rfl)) (by decide)) (ss_cons (ss_set (ps_set (i := 7) sc_puts_at.nd rfl (by first | exact Or.inl rfl | exact Or.inr rfl) (se_tup (sa_cons (se_str) (sa_cons (se_T call_tuple_of cs_tuple rfl T.n_tuple bt_tuple (sa_cons (se_var (pv 2)) (sa_nil))) (sa_cons (se_var (pv 4)) (sa_cons (se_bin op_modA ops_mod (se_bin op_addA ops_add (se_ix (se_var (pv 0)) (se_int) (fun _ _ => rfl)) (se_var (pv 6))) (se_var (pv 4))) (sa_nil)))))))) <| ss_one (ss_for (sl := [8]) hp rfl (si_rng1 rfl T.n_range (sa_cons (se_var (pv 1)) (sa_nil))) (sg_name (pg_name (i := 8) sc_puts_at.nd rfl (by first | exact Or.inl rfl | exact Or.inr rfl)) (by decide)) (ss_cons (ss_if (st_cmp op_gt opb_gt (se_var (pv 3)) (se_int) (nomark _)) (ss_one (ss_set (ps_set (i := 9) sc_puts_at.nd rfl (by first | exact Or.inl rfl | exact Or.inr rfl) (se_make (ks := ["by"]) T.c_Put T.mk_Put F_Put_init hr rfl T.kd_Put_init_3_by gl_Put_init_3_by tk (sa_cons (se_T call_tuple_of cs_tuple rfl T.n_tuple bt_tuple (sa_cons (se_lc (own := [("weight", 10)]) rfl sc_puts_at.nd (si_seq (se_var (pv 2))) (blkOk_by (N := ["atom", "wheel", "fore", "last", "by", "found", "rest", "when", "more", "put", "weight"]) (sc := defScope s_puts_at) (own := [("weight", 10)]) (by decide +kernel)) (fun _ _ _ _ _ => sg_name (pg_name (i := 10) sc_puts_at.nd rfl (by first | exact Or.inl rfl | exact Or.inr rfl)) (by decide)) (fun _ _ _ _ _ => pts_yes) (fun _ _ _ _ _ => se_un un_neg uns_neg (se_var (pv 10)))) (sa_nil))) (sa_cons (se_bin op_addA ops_add (se_bin op_addA ops_add (se_ix (se_var (pv 0)) (se_int) (fun _ _ => rfl)) (se_var (pv 6))) (se_bin op_mulB ops_mul (se_var (pv 4)) (se_var (pv 8)))) (sa_nil))) (sk_cons (se_var (pv 4)) (sk_nil)))))) (ss_one (ss_set (ps_set (i := 9) sc_puts_at.nd rfl (by first | exact Or.inl rfl | exact Or.inr rfl) (se_make (ks := ["by"]) T.c_Put T.mk_Put F_Put_init hr rfl T.kd_Put_init_3_by gl_Put_init_3_by tk (sa_cons (se_T call_tuple_of cs_tuple rfl T.n_tuple bt_tuple (sa_cons (se_var (pv 2)) (sa_nil))) (sa_cons (se_bin op_sub ops_sub (se_bin op_sub ops_sub (se_bin op_mulB ops_mul (se_var (pv 4)) (se_bin op_addA ops_add (se_var (pv 8)) (se_int))) (se_ix (se_var (pv 0)) (se_int) (fun _ _ => rfl))) (se_var (pv 6))) (sa_nil))) (sk_cons (se_var (pv 4)) (sk_nil))))))) <| ss_one (ss_expr (se_mt PySem.F.plainAttrs_list slot_list_append type_list_append mt_append mts_append (se_var (pv 5)) (sa_cons (se_tup (sa_cons (se_var (pv 9)) (sa_cons (se_var (pv 7)) (sa_nil)))) (sa_nil)))))))) <| ss_one (ss_ret (se_frz (se_var (pv 5))))
theorem w_any_of (T : Txt K w mg a_many_of a_atoms_of a_show_sentence a_number_in a_simple_in a_places_between a_both_in a_sentence_in a_read_sentence a_common_part a_wheel_of a_breaking a_sought_by a_Put_init a_Put_weights_in a_Put_into a_Put_is_number a_puts_at a_any_of a_plainly_some a_plainly a__law_mix a__law_jar a__law_pick a__law_simple a__law_sentence a__law_written a__law_same a_law d_many_of d_atoms_of d_show_sentence d_number_in d_simple_in d_places_between d_both_in d_sentence_in d_read_sentence d_common_part d_wheel_of d_breaking d_sought_by d_Put_init d_Put_weights_in d_Put_into d_Put_is_number d_puts_at d_any_of d_plainly_some d_plainly d__law_mix d__law_jar d__law_pick d__law_simple d__law_sentence d__law_written d__law_same d_law C_Put) {j : Nat} (cdv : Value) (A : Around) (outer : List Env) (s : Shared) (H : Hp) (E : XK) (hr : Room (j + 1) (A.deeper (envOfC "any_of" (defScope s_any_of) s.heap.objs.size a_any_of cdv))) :
    SSs (cxOf (L2.CX P w) P w K mg base ["sentences", "odd", "one", "other"] "any_of" (defScope s_any_of) a_any_of cdv A outer s H E) (fun c d _ H => E c d H) (B_any_of ) (defBody s_any_of) := by
  have tk : Takes (cxOf (L2.CX P w) P w K mg base ["sentences", "odd", "one", "other"] "any_of" (defScope s_any_of) a_any_of cdv A outer s H E) (fun c d _ H => E c d H) := takes_of rfl rfl rfl rfl
  have hp : PassesOwn (model P w) (cxOf (L2.CX P w) P w K mg base ["sentences", "odd", "one", "other"] "any_of" (defScope s_any_of) a_any_of cdv A outer s H E).A (cxOf (L2.CX P w) P w K mg base ["sentences", "odd", "one", "other"] "any_of" (defScope s_any_of) a_any_of cdv A outer s H E).env (cxOf (L2.CX P w) P w K mg base ["sentences", "odd", "one", "other"] "any_of" (defScope s_any_of) a_any_of cdv A outer s H E).xe := passes_of rfl
  exact ss_cons (ss_while hp (st_cmp op_gt opb_gt (se_B call_len cs_len rfl T.n_len bt_len (sa_cons (se_var (pv 0)) (sa_nil))) (se_int) (nomark _)) (ss_cons (ss_set (ps_set (i := 1) sc_any_of.nd rfl (by first | exact Or.inl rfl | exact Or.inr rfl) (se_slice (se_var (pv 0)) (so_some (se_bin op_mulB ops_mul (se_bin op_fdivA ops_div (se_B call_len cs_len rfl T.n_len bt_len (sa_cons (se_var (pv 0)) (sa_nil))) (se_int)) (se_int))) (so_none)))) <| ss_one (ss_set (ps_set (i := 0) sc_any_of.nd rfl (by first | exact Or.inl rfl | exact Or.inr rfl) (se_bin op_addA ops_add (se_lc (own := [("one", 2), ("other", 3)]) rfl sc_any_of.nd (si_zip rfl T.n_zip (sa_cons (se_step0 (st := 2) (by decide) (se_var (pv 0))) (sa_cons (se_step (lo := 1) (st := 2) (by decide) (se_var (pv 0))) (sa_nil)))) (blkOk_by (N := ["sentences", "odd", "one", "other"]) (sc := defScope s_any_of) (own := [("one", 2), ("other", 3)]) (by decide +kernel)) (fun _ _ _ _ _ => sg_seq rfl (sgs_cons (sg_name (pg_name (i := 2) sc_any_of.nd rfl (by first | exact Or.inl rfl | exact Or.inr rfl)) (by decide)) (sgs_cons (sg_name (pg_name (i := 3) sc_any_of.nd rfl (by first | exact Or.inl rfl | exact Or.inr rfl)) (by decide)) (sgs_nil)))) (fun _ _ _ _ _ => pts_yes) (fun _ _ _ _ _ => se_tup (sa_cons (se_str) (sa_cons (se_var (pv 2)) (sa_cons (se_var (pv 3)) (sa_nil)))))) (se_var (pv 1))))))) <| ss_one (ss_ret (se_ix (se_var (pv 0)) (se_int) (fun _ _ => rfl)))
theorem w_plainly_some (T : Txt K w mg a_many_of a_atoms_of a_show_sentence a_number_in a_simple_in a_places_between a_both_in a_sentence_in a_read_sentence a_common_part a_wheel_of a_breaking a_sought_by a_Put_init a_Put_weights_in a_Put_into a_Put_is_number a_puts_at a_any_of a_plainly_some a_plainly a__law_mix a__law_jar a__law_pick a__law_simple a__law_sentence a__law_written a__law_same a_law d_many_of d_atoms_of d_show_sentence d_number_in d_simple_in d_places_between d_both_in d_sentence_in d_read_sentence d_common_part d_wheel_of d_breaking d_sought_by d_Put_init d_Put_weights_in d_Put_into d_Put_is_number d_puts_at d_any_of d_plainly_some d_plainly d__law_mix d__law_jar d__law_pick d__law_simple d__law_sentence d__law_written d__law_same d_law C_Put) {j : Nat} {f_wheel_of f_many_of f_Put_into f_breaking f_puts_at f_Put_is_number f_any_of f_Put_init : Fn} (F_wheel_of : FnD P w K mg base (j + 1) a_wheel_of d_wheel_of ["sentence"] f_wheel_of) (F_many_of : FnD P w K mg base (j + 1) a_many_of d_many_of ["sentence"] f_many_of) (F_Put_into : FnD P w K mg base (j + 1) a_Put_into d_Put_into ["self", "sentence"] f_Put_into) (F_breaking : FnD P w K mg base (j + 1) a_breaking d_breaking ["sentence"] f_breaking) (F_puts_at : FnD P w K mg base (j + 1) a_puts_at d_puts_at ["atom", "wheel"] f_puts_at) (F_Put_is_number : FnD P w K mg base (j + 1) a_Put_is_number d_Put_is_number ["self"] f_Put_is_number) (F_any_of : FnD P w K mg base (j + 1) a_any_of d_any_of ["sentences"] f_any_of) (F_Put_init : FnD P w K mg base j a_Put_init d_Put_init ["self", "weights", "number", "by"] f_Put_init) (cdv : Value) (A : Around) (outer : List Env) (s : Shared) (H : Hp) (E : XK) (hr : Room (j + 1) (A.deeper (envOfC "plainly_some" (defScope s_plainly_some) s.heap.objs.size a_plainly_some cdv))) :
    SSs (cxOf (L2.CX P w) P w K mg base ["sentence", "wheel", "nought", "found", "atom", "put", "when", "more"] "plainly_some" (defScope s_plainly_some) a_plainly_some cdv A outer s H E) (fun c d _ H => E c d H) (B_plainly_some f_wheel_of f_many_of f_Put_into f_breaking f_puts_at f_Put_is_number f_any_of f_Put_init) (defBody s_plainly_some) := by
  have tk : Takes (cxOf (L2.CX P w) P w K mg base ["sentence", "wheel", "nought", "found", "atom", "put", "when", "more"] "plainly_some" (defScope s_plainly_some) a_plainly_some cdv A outer s H E) (fun c d _ H => E c d H) := takes_of rfl rfl rfl rfl
  have hp : PassesOwn (model P w) (cxOf (L2.CX P w) P w K mg base ["sentence", "wheel", "nought", "found", "atom", "put", "when", "more"] "plainly_some" (defScope s_plainly_some) a_plainly_some cdv A outer s H E).A (cxOf (L2.CX P w) P w K mg base ["sentence", "wheel", "nought", "found", "atom", "put", "when", "more"] "plainly_some" (defScope s_plainly_some) a_plainly_some cdv A outer s H E).env (cxOf (L2.CX P w) P w K mg base ["sentence", "wheel", "nought", "found", "atom", "put", "when", "more"] "plainly_some" (defScope s_plainly_some) a_plainly_some cdv A outer s H E).xe := passes_of rfl
  exact ss_cons (ss_set (ps_set (i := 1) sc_plainly_some.nd rfl (by first | exact Or.inl rfl | exact Or.inr rfl) (se_call (ks := []) F_wheel_of hr rfl T.g_wheel_of T.F_wheel_of.kp T.kd_wheel_of_1 gl_wheel_of_1 tk (sa_cons (se_var (pv 0)) (sa_nil)) (sk_nil)))) <| ss_cons (ss_set (ps_set (i := 2) sc_plainly_some.nd rfl (by first | exact Or.inl rfl | exact Or.inr rfl) (se_bin op_mulB ops_mul (se_tup (sa_cons (se_int) (sa_nil))) (se_bin op_sub ops_sub (se_call (ks := []) F_many_of hr rfl T.g_many_of T.F_many_of.kp T.kd_many_of_1 gl_many_of_1 tk (sa_cons (se_var (pv 0)) (sa_nil)) (sk_nil)) (se_int))))) <| ss_cons (ss_lcM (own := [("more", 7)]) (i := 3) rfl sc_plainly_some.nd rfl rfl (sw_true rfl rfl rfl (by decide +kernel)) (si_rng1 rfl T.n_range (sa_cons (se_var (pv 1)) (sa_nil))) (blkOk_by (N := ["sentence", "wheel", "nought", "found", "atom", "put", "when", "more"]) (sc := defScope s_plainly_some) (own := [("more", 7)]) (by decide +kernel)) (fun _ _ _ _ _ => sg_name (pg_name (i := 7) sc_plainly_some.nd rfl (by first | exact Or.inl rfl | exact Or.inr rfl)) (by decide)) (fun _ _ _ _ _ => pts_yes) (fun _ _ _ _ _ => se_meth (ks := []) (pl := _) T.c_Put T.cl_Put T.m_Put_into F_Put_into hr T.kd_Put_into_2 gl_Put_into_2 takes0 (se_make (ks := []) T.c_Put T.mk_Put F_Put_init hr rfl T.kd_Put_init_3 gl_Put_init_3 takes0 (sa_cons (se_var (pv 2)) (sa_cons (se_var (pv 7)) (sa_nil))) (sk_nil)) (sa_cons (se_var (pv 0)) (sa_nil)) (sk_nil))) <| ss_cons (ss_for (sl := [4]) hp rfl (si_seq (se_call (ks := []) F_breaking hr rfl T.g_breaking T.F_breaking.kp T.kd_breaking_1 gl_breaking_1 tk (sa_cons (se_var (pv 0)) (sa_nil)) (sk_nil))) (sg_name (pg_name (i := 4) sc_plainly_some.nd rfl (by first | exact Or.inl rfl | exact Or.inr rfl)) (by decide)) (ss_one (ss_for (sl := [5, 6]) hp rfl (si_seq (se_call (ks := []) F_puts_at hr rfl T.g_puts_at T.F_puts_at.kp T.kd_puts_at_2 gl_puts_at_2 tk (sa_cons (se_var (pv 4)) (sa_cons (se_var (pv 1)) (sa_nil))) (sk_nil))) (sg_seq rfl (sgs_cons (sg_name (pg_name (i := 5) sc_plainly_some.nd rfl (by first | exact Or.inl rfl | exact Or.inr rfl)) (by decide)) (sgs_cons (sg_name (pg_name (i := 6) sc_plainly_some.nd rfl (by first | exact Or.inl rfl | exact Or.inr rfl)) (by decide)) (sgs_nil)))) (ss_one (ss_expr (se_mt PySem.F.plainAttrs_list slot_list_append type_list_append mt_append mts_append (se_var (pv 3)) (sa_cons (se_tup (sa_cons (se_str) (sa_cons (se_var (pv 6)) (sa_cons (se_tup (sa_cons (se_str) (sa_cons (se_meth0 (ks := []) (pl := _) T.c_Put T.cl_Put T.m_Put_is_number F_Put_is_number hr T.kd_Put_is_number_1 gl_Put_is_number_1 tk (se_var (pv 5)) (sk_nil)) (sa_cons (se_meth (ks := []) (pl := _) T.c_Put T.cl_Put T.m_Put_into F_Put_into hr T.kd_Put_into_2 gl_Put_into_2 tk (se_var (pv 5)) (sa_cons (se_var (pv 0)) (sa_nil)) (sk_nil)) (sa_nil))))) (sa_nil))))) (sa_nil)))))))) <| ss_one (ss_ret (se_call (ks := []) F_any_of hr rfl T.g_any_of T.F_any_of.kp T.kd_any_of_1 gl_any_of_1 tk (sa_cons (se_var (pv 3)) (sa_nil)) (sk_nil)))
theorem w_plainly (T : Txt K w mg a_many_of a_atoms_of a_show_sentence a_number_in a_simple_in a_places_between a_both_in a_sentence_in a_read_sentence a_common_part a_wheel_of a_breaking a_sought_by a_Put_init a_Put_weights_in a_Put_into a_Put_is_number a_puts_at a_any_of a_plainly_some a_plainly a__law_mix a__law_jar a__law_pick a__law_simple a__law_sentence a__law_written a__law_same a_law d_many_of d_atoms_of d_show_sentence d_number_in d_simple_in d_places_between d_both_in d_sentence_in d_read_sentence d_common_part d_wheel_of d_breaking d_sought_by d_Put_init d_Put_weights_in d_Put_into d_Put_is_number d_puts_at d_any_of d_plainly_some d_plainly d__law_mix d__law_jar d__law_pick d__law_simple d__law_sentence d__law_written d__law_same d_law C_Put) {j : Nat} {f_sought_by f_plainly_some : Fn} (F_sought_by : FnD P w K mg base (j + 1) a_sought_by d_sought_by ["question"] f_sought_by) (F_plainly_some : FnD P w K mg base (j + 1) a_plainly_some d_plainly_some ["sentence"] f_plainly_some) (cdv : Value) (A : Around) (outer : List Env) (s : Shared) (H : Hp) (E : XK) (hr : Room (j + 1) (A.deeper (envOfC "plainly" (defScope s_plainly) s.heap.objs.size a_plainly cdv))) :
    SSs (cxOf (L2.CX P w) P w K mg base ["question", "found"] "plainly" (defScope s_plainly) a_plainly cdv A outer s H E) (fun c d _ H => E c d H) (B_plainly f_sought_by f_plainly_some) (defBody s_plainly) := by
  have tk : Takes (cxOf (L2.CX P w) P w K mg base ["question", "found"] "plainly" (defScope s_plainly) a_plainly cdv A outer s H E) (fun c d _ H => E c d H) := takes_of rfl rfl rfl rfl
  have hp : PassesOwn (model P w) (cxOf (L2.CX P w) P w K mg base ["question", "found"] "plainly" (defScope s_plainly) a_plainly cdv A outer s H E).A (cxOf (L2.CX P w) P w K mg base ["question", "found"] "plainly" (defScope s_plainly) a_plainly cdv A outer s H E).env (cxOf (L2.CX P w) P w K mg base ["question", "found"] "plainly" (defScope s_plainly) a_plainly cdv A outer s H E).xe := passes_of rfl
  exact ss_cons (ss_set (ps_set (i := 1) sc_plainly.nd rfl (by first | exact Or.inl rfl | exact Or.inr rfl) (se_call (ks := []) F_plainly_some hr rfl T.g_plainly_some T.F_plainly_some.kp T.kd_plainly_some_1 gl_plainly_some_1 tk (sa_cons (se_call (ks := []) F_sought_by hr rfl T.g_sought_by T.F_sought_by.kp T.kd_sought_by_1 gl_sought_by_1 tk (sa_cons (se_var (pv 0)) (sa_nil)) (sk_nil)) (sa_nil)) (sk_nil)))) <| ss_one (ss_ret (se_if (st_cmp (op_eqD hr.units) opb_eq (se_ix (se_var (pv 0)) (se_int) (fun _ _ => rfl)) (se_str) (nomark _)) (se_var (pv 1)) (se_tup (sa_cons (se_str) (sa_cons (se_var (pv 1)) (sa_nil))))))
theorem w__law_mix (T : Txt K w mg a_many_of a_atoms_of a_show_sentence a_number_in a_simple_in a_places_between a_both_in a_sentence_in a_read_sentence a_common_part a_wheel_of a_breaking a_sought_by a_Put_init a_Put_weights_in a_Put_into a_Put_is_number a_puts_at a_any_of a_plainly_some a_plainly a__law_mix a__law_jar a__law_pick a__law_simple a__law_sentence a__law_written a__law_same a_law d_many_of d_atoms_of d_show_sentence d_number_in d_simple_in d_places_between d_both_in d_sentence_in d_read_sentence d_common_part d_wheel_of d_breaking d_sought_by d_Put_init d_Put_weights_in d_Put_into d_Put_is_number d_puts_at d_any_of d_plainly_some d_plainly d__law_mix d__law_jar d__law_pick d__law_simple d__law_sentence d__law_written d__law_same d_law C_Put) {j : Nat} (cdv : Value) (A : Around) (outer : List Env) (s : Shared) (H : Hp) (E : XK) (hr : Room (j + 1) (A.deeper (envOfC "_law_mix" (defScope s__law_mix) s.heap.objs.size a__law_mix cdv))) :
    SSs (cxOf (L2.CX P w) P w K mg base ["one"] "_law_mix" (defScope s__law_mix) a__law_mix cdv A outer s H E) (fun c d _ H => E c d H) (B__law_mix ) (defBody s__law_mix) := by
  have tk : Takes (cxOf (L2.CX P w) P w K mg base ["one"] "_law_mix" (defScope s__law_mix) a__law_mix cdv A outer s H E) (fun c d _ H => E c d H) := takes_of rfl rfl rfl rfl
  have hp : PassesOwn (model P w) (cxOf (L2.CX P w) P w K mg base ["one"] "_law_mix" (defScope s__law_mix) a__law_mix cdv A outer s H E).A (cxOf (L2.CX P w) P w K mg base ["one"] "_law_mix" (defScope s__law_mix) a__law_mix cdv A outer s H E).env (cxOf (L2.CX P w) P w K mg base ["one"] "_law_mix" (defScope s__law_mix) a__law_mix cdv A outer s H E).xe := passes_of rfl
  exact ss_cons (ss_set (ps_set (i := 0) sc__law_mix.nd rfl (by first | exact Or.inl rfl | exact Or.inr rfl) (se_bin op_modA ops_mod (se_bin op_mulB ops_mul (se_bin op_xor ops_xor (se_var (pv 0)) (se_bin op_fdivA ops_div (se_var (pv 0)) (se_int))) (se_int)) (se_int)))) <| ss_cons (ss_set (ps_set (i := 0) sc__law_mix.nd rfl (by first | exact Or.inl rfl | exact Or.inr rfl) (se_bin op_modA ops_mod (se_bin op_mulB ops_mul (se_bin op_xor ops_xor (se_var (pv 0)) (se_bin op_fdivA ops_div (se_var (pv 0)) (se_int))) (se_int)) (se_int)))) <| ss_one (ss_ret (se_bin op_xor ops_xor (se_var (pv 0)) (se_bin op_fdivA ops_div (se_var (pv 0)) (se_int))))
theorem w__law_jar (T : Txt K w mg a_many_of a_atoms_of a_show_sentence a_number_in a_simple_in a_places_between a_both_in a_sentence_in a_read_sentence a_common_part a_wheel_of a_breaking a_sought_by a_Put_init a_Put_weights_in a_Put_into a_Put_is_number a_puts_at a_any_of a_plainly_some a_plainly a__law_mix a__law_jar a__law_pick a__law_simple a__law_sentence a__law_written a__law_same a_law d_many_of d_atoms_of d_show_sentence d_number_in d_simple_in d_places_between d_both_in d_sentence_in d_read_sentence d_common_part d_wheel_of d_breaking d_sought_by d_Put_init d_Put_weights_in d_Put_into d_Put_is_number d_puts_at d_any_of d_plainly_some d_plainly d__law_mix d__law_jar d__law_pick d__law_simple d__law_sentence d__law_written d__law_same d_law C_Put) {j : Nat} {f__law_mix : Fn} (F__law_mix : FnD P w K mg base (j + 1) a__law_mix d__law_mix ["one"] f__law_mix) (cdv : Value) (A : Around) (outer : List Env) (s : Shared) (H : Hp) (E : XK) (hr : Room (j + 1) (A.deeper (envOfC "_law_jar" (defScope s__law_jar) s.heap.objs.size a__law_jar cdv))) :
    SSs (cxOf (L2.CX P w) P w K mg base ["script", "seed", "cell"] "_law_jar" (defScope s__law_jar) a__law_jar cdv A outer s H E) (fun c d _ H => E c d H) (B__law_jar f__law_mix) (defBody s__law_jar) := by
  have tk : Takes (cxOf (L2.CX P w) P w K mg base ["script", "seed", "cell"] "_law_jar" (defScope s__law_jar) a__law_jar cdv A outer s H E) (fun c d _ H => E c d H) := takes_of rfl rfl rfl rfl
  have hp : PassesOwn (model P w) (cxOf (L2.CX P w) P w K mg base ["script", "seed", "cell"] "_law_jar" (defScope s__law_jar) a__law_jar cdv A outer s H E).A (cxOf (L2.CX P w) P w K mg base ["script", "seed", "cell"] "_law_jar" (defScope s__law_jar) a__law_jar cdv A outer s H E).env (cxOf (L2.CX P w) P w K mg base ["script", "seed", "cell"] "_law_jar" (defScope s__law_jar) a__law_jar cdv A outer s H E).xe := passes_of rfl
  exact ss_cons (ss_set (ps_set (i := 1) sc__law_jar.nd rfl (by first | exact Or.inl rfl | exact Or.inr rfl) (se_int))) <| ss_cons (ss_for (sl := [2]) hp rfl (si_seq (se_slice (se_var (pv 0)) (so_none) (so_some (se_int)))) (sg_name (pg_name (i := 2) sc__law_jar.nd rfl (by first | exact Or.inl rfl | exact Or.inr rfl)) (by decide)) (ss_one (ss_set (ps_set (i := 1) sc__law_jar.nd rfl (by first | exact Or.inl rfl | exact Or.inr rfl) (se_call (ks := []) F__law_mix hr rfl T.g__law_mix T.F__law_mix.kp T.kd__law_mix_1 gl__law_mix_1 tk (sa_cons (se_bin op_modA ops_mod (se_bin op_addA ops_add (se_bin op_mulB ops_mul (se_var (pv 1)) (se_int)) (se_var (pv 2))) (se_int)) (sa_nil)) (sk_nil)))))) <| ss_one (ss_ret (se_dict (sps_cons (se_str) (se_T call_list_of cs_listM rfl T.n_list bt_list (sa_cons (se_slice (se_var (pv 0)) (so_none) (so_some (se_int))) (sa_nil))) (sps_cons (se_str) (se_int) (sps_cons (se_str) (se_var (pv 1)) (sps_cons (se_str) (se_int) (sps_nil)))))))
theorem w__law_pick (T : Txt K w mg a_many_of a_atoms_of a_show_sentence a_number_in a_simple_in a_places_between a_both_in a_sentence_in a_read_sentence a_common_part a_wheel_of a_breaking a_sought_by a_Put_init a_Put_weights_in a_Put_into a_Put_is_number a_puts_at a_any_of a_plainly_some a_plainly a__law_mix a__law_jar a__law_pick a__law_simple a__law_sentence a__law_written a__law_same a_law d_many_of d_atoms_of d_show_sentence d_number_in d_simple_in d_places_between d_both_in d_sentence_in d_read_sentence d_common_part d_wheel_of d_breaking d_sought_by d_Put_init d_Put_weights_in d_Put_into d_Put_is_number d_puts_at d_any_of d_plainly_some d_plainly d__law_mix d__law_jar d__law_pick d__law_simple d__law_sentence d__law_written d__law_same d_law C_Put) {j : Nat} {f__law_mix : Fn} (F__law_mix : FnD P w K mg base (j + 1) a__law_mix d__law_mix ["one"] f__law_mix) (cdv : Value) (A : Around) (outer : List Env) (s : Shared) (H : Hp) (E : XK) (hr : Room (j + 1) (A.deeper (envOfC "_law_pick" (defScope s__law_pick) s.heap.objs.size a__law_pick cdv))) :
    SSs (cxOf (L2.CX P w) P w K mg base ["jar", "total", "cell", "spun", "one", "found"] "_law_pick" (defScope s__law_pick) a__law_pick cdv A outer s H E) (fun c d _ H => E c d H) (B__law_pick f__law_mix) (defBody s__law_pick) := by
  have tk : Takes (cxOf (L2.CX P w) P w K mg base ["jar", "total", "cell", "spun", "one", "found"] "_law_pick" (defScope s__law_pick) a__law_pick cdv A outer s H E) (fun c d _ H => E c d H) := takes_of rfl rfl rfl rfl
  have hp : PassesOwn (model P w) (cxOf (L2.CX P w) P w K mg base ["jar", "total", "cell", "spun", "one", "found"] "_law_pick" (defScope s__law_pick) a__law_pick cdv A outer s H E).A (cxOf (L2.CX P w) P w K mg base ["jar", "total", "cell", "spun", "one", "found"] "_law_pick" (defScope s__law_pick) a__law_pick cdv A outer s H E).env (cxOf (L2.CX P w) P w K mg base ["jar", "total", "cell", "spun", "one", "found"] "_law_pick" (defScope s__law_pick) a__law_pick cdv A outer s H E).xe := passes_of rfl
  exact ss_cons (ss_if (st_cmp op_lt opb_lt (se_dget hr (se_var (pv 0)) (se_str)) (se_var (pv 1)) (nomark _)) (ss_cons (ss_dput hr (se_var (pv 0)) (se_str) (se_bin op_addA ops_add (se_dget hr (se_var (pv 0)) (se_str)) (se_int))) <| ss_one (ss_if (st_cmp (op_neD hr.units) opb_ne (se_dget hr (se_var (pv 0)) (se_str)) (se_lst (sa_nil)) (nomark _)) (ss_cons (ss_set (ps_set (i := 2) sc__law_pick.nd rfl (by first | exact Or.inl rfl | exact Or.inr rfl) (se_mt PySem.F.plainAttrs_list PySem.F.slot_list_pop PySem.F.type_list_pop mt_popAt mts_popAt (se_dget hr (se_var (pv 0)) (se_str)) (sa_cons (se_int) (sa_nil))))) <| ss_cons (ss_dput hr (se_var (pv 0)) (se_str) (se_var (pv 2))) <| ss_one (ss_if (st_cmp op_lt opb_lt (se_var (pv 2)) (se_bin op_pow ops_pow (se_int) (se_int)) (nomark _)) (ss_cons (ss_set (ps_set (i := 3) sc__law_pick.nd rfl (by first | exact Or.inl rfl | exact Or.inr rfl) (se_bin op_addA ops_add (se_bin op_mulB ops_mul (se_var (pv 2)) (se_int)) (se_bin op_mulB ops_mul (se_dget hr (se_var (pv 0)) (se_str)) (se_int))))) <| ss_cons (ss_set (ps_set (i := 4) sc__law_pick.nd rfl (by first | exact Or.inl rfl | exact Or.inr rfl) (se_call (ks := []) F__law_mix hr rfl T.g__law_mix T.F__law_mix.kp T.kd__law_mix_1 gl__law_mix_1 tk (sa_cons (se_bin op_modA ops_mod (se_var (pv 3)) (se_int)) (sa_nil)) (sk_nil)))) <| ss_one (ss_dput hr (se_var (pv 0)) (se_str) (se_bin op_addA ops_add (se_bin op_mulB ops_mul (se_var (pv 4)) (se_int)) (se_call (ks := []) F__law_mix hr rfl T.g__law_mix T.F__law_mix.kp T.kd__law_mix_1 gl__law_mix_1 tk (sa_cons (se_bin op_xor ops_xor (se_var (pv 4)) (se_int)) (sa_nil)) (sk_nil))))) (ss_nil))) (ss_cons (ss_dput hr (se_var (pv 0)) (se_str) (se_call (ks := []) F__law_mix hr rfl T.g__law_mix T.F__law_mix.kp T.kd__law_mix_1 gl__law_mix_1 tk (sa_cons (se_bin op_modA ops_mod (se_bin op_addA ops_add (se_dget hr (se_var (pv 0)) (se_str)) (se_int)) (se_int)) (sa_nil)) (sk_nil))) <| ss_one (ss_dput hr (se_var (pv 0)) (se_str) (se_dget hr (se_var (pv 0)) (se_str)))))) (ss_nil)) <| ss_cons (ss_set (ps_set (i := 5) sc__law_pick.nd rfl (by first | exact Or.inl rfl | exact Or.inr rfl) (se_bin op_modA ops_mod (se_dget hr (se_var (pv 0)) (se_str)) (se_var (pv 1))))) <| ss_cons (ss_dput hr (se_var (pv 0)) (se_str) (se_bin op_fdivA ops_div (se_dget hr (se_var (pv 0)) (se_str)) (se_var (pv 1)))) <| ss_one (ss_ret (se_var (pv 5)))
theorem w__law_simple (T : Txt K w mg a_many_of a_atoms_of a_show_sentence a_number_in a_simple_in a_places_between a_both_in a_sentence_in a_read_sentence a_common_part a_wheel_of a_breaking a_sought_by a_Put_init a_Put_weights_in a_Put_into a_Put_is_number a_puts_at a_any_of a_plainly_some a_plainly a__law_mix a__law_jar a__law_pick a__law_simple a__law_sentence a__law_written a__law_same a_law d_many_of d_atoms_of d_show_sentence d_number_in d_simple_in d_places_between d_both_in d_sentence_in d_read_sentence d_common_part d_wheel_of d_breaking d_sought_by d_Put_init d_Put_weights_in d_Put_into d_Put_is_number d_puts_at d_any_of d_plainly_some d_plainly d__law_mix d__law_jar d__law_pick d__law_simple d__law_sentence d__law_written d__law_same d_law C_Put) {j : Nat} {f__law_pick : Fn} (F__law_pick : FnD P w K mg base (j + 1) a__law_pick d__law_pick ["jar", "total"] f__law_pick) (cdv : Value) (A : Around) (outer : List Env) (s : Shared) (H : Hp) (E : XK) (hr : Room (j + 1) (A.deeper (envOfC "_law_simple" (defScope s__law_simple) s.heap.objs.size a__law_simple cdv))) :
    SSs (cxOf (L2.CX P w) P w K mg base ["jar", "total", "weights", "part", "gate"] "_law_simple" (defScope s__law_simple) a__law_simple cdv A outer s H E) (fun c d _ H => E c d H) (B__law_simple f__law_pick) (defBody s__law_simple) := by
  have tk : Takes (cxOf (L2.CX P w) P w K mg base ["jar", "total", "weights", "part", "gate"] "_law_simple" (defScope s__law_simple) a__law_simple cdv A outer s H E) (fun c d _ H => E c d H) := takes_of rfl rfl rfl rfl
  have hp : PassesOwn (model P w) (cxOf (L2.CX P w) P w K mg base ["jar", "total", "weights", "part", "gate"] "_law_simple" (defScope s__law_simple) a__law_simple cdv A outer s H E).A (cxOf (L2.CX P w) P w K mg base ["jar", "total", "weights", "part", "gate"] "_law_simple" (defScope s__law_simple) a__law_simple cdv A outer s H E).env (cxOf (L2.CX P w) P w K mg base ["jar", "total", "weights", "part", "gate"] "_law_simple" (defScope s__law_simple) a__law_simple cdv A outer s H E).xe := passes_of rfl
  exact ss_cons (ss_set (ps_set (i := 2) sc__law_simple.nd rfl (by first | exact Or.inl rfl | exact Or.inr rfl) (se_T call_tuple_of cs_tuple rfl T.n_tuple bt_tuple (sa_cons (se_lc (own := [("gate", 4)]) rfl sc__law_simple.nd (si_rng1 rfl T.n_range (sa_cons (se_var (pv 1)) (sa_nil))) (blkOk_by (N := ["jar", "total", "weights", "part", "gate"]) (sc := defScope s__law_simple) (own := [("gate", 4)]) (by decide +kernel)) (fun _ _ _ _ _ => sg_name (pg_name (i := 4) sc__law_simple.nd rfl (by first | exact Or.inl rfl | exact Or.inr rfl)) (by decide)) (fun _ _ _ _ _ => pts_yes) (fun _ _ _ _ _ => se_bin op_sub ops_sub (se_call (ks := []) F__law_pick hr rfl T.g__law_pick T.F__law_pick.kp T.kd__law_pick_2 gl__law_pick_2 takes0 (sa_cons (se_var (pv 0)) (sa_cons (se_int) (sa_nil))) (sk_nil)) (se_int))) (sa_nil))))) <| ss_cons (ss_if (st_cmp (op_eqD hr.units) opb_eq (se_call (ks := []) F__law_pick hr rfl T.g__law_pick T.F__law_pick.kp T.kd__law_pick_2 gl__law_pick_2 tk (sa_cons (se_var (pv 0)) (sa_cons (se_int) (sa_nil))) (sk_nil)) (se_int) (nomark _)) (ss_one (ss_ret (se_tup (sa_cons (se_str) (sa_cons (se_var (pv 2)) (sa_cons (se_bin op_sub ops_sub (se_call (ks := []) F__law_pick hr rfl T.g__law_pick T.F__law_pick.kp T.kd__law_pick_2 gl__law_pick_2 tk (sa_cons (se_var (pv 0)) (sa_cons (se_int) (sa_nil))) (sk_nil)) (se_int)) (sa_nil))))))) (ss_nil)) <| ss_cons (ss_set (ps_set (i := 3) sc__law_simple.nd rfl (by first | exact Or.inl rfl | exact Or.inr rfl) (se_bin op_addA ops_add (se_int) (se_call (ks := []) F__law_pick hr rfl T.g__law_pick T.F__law_pick.kp T.kd__law_pick_2 gl__law_pick_2 tk (sa_cons (se_var (pv 0)) (sa_cons (se_int) (sa_nil))) (sk_nil))))) <| ss_one (ss_ret (se_tup (sa_cons (se_str) (sa_cons (se_var (pv 2)) (sa_cons (se_var (pv 3)) (sa_cons (se_call (ks := []) F__law_pick hr rfl T.g__law_pick T.F__law_pick.kp T.kd__law_pick_2 gl__law_pick_2 tk (sa_cons (se_var (pv 0)) (sa_cons (se_var (pv 3)) (sa_nil))) (sk_nil)) (sa_nil)))))))
theorem w__law_sentence (T : Txt K w mg a_many_of a_atoms_of a_show_sentence a_number_in a_simple_in a_places_between a_both_in a_sentence_in a_read_sentence a_common_part a_wheel_of a_breaking a_sought_by a_Put_init a_Put_weights_in a_Put_into a_Put_is_number a_puts_at a_any_of a_plainly_some a_plainly a__law_mix a__law_jar a__law_pick a__law_simple a__law_sentence a__law_written a__law_same a_law d_many_of d_atoms_of d_show_sentence d_number_in d_simple_in d_places_between d_both_in d_sentence_in d_read_sentence d_common_part d_wheel_of d_breaking d_sought_by d_Put_init d_Put_weights_in d_Put_into d_Put_is_number d_puts_at d_any_of d_plainly_some d_plainly d__law_mix d__law_jar d__law_pick d__law_simple d__law_sentence d__law_written d__law_same d_law C_Put) {j : Nat} {f__law_pick f__law_simple f__law_sentence : Fn} (F__law_pick : FnD P w K mg base (j + 1) a__law_pick d__law_pick ["jar", "total"] f__law_pick) (F__law_simple : FnD P w K mg base (j + 1) a__law_simple d__law_simple ["jar", "total"] f__law_simple) (F__law_sentence : FnD P w K mg base (j + 1) a__law_sentence d__law_sentence ["jar", "total", "within"] f__law_sentence) (cdv : Value) (A : Around) (outer : List Env) (s : Shared) (H : Hp) (E : XK) (hr : Room (j + 1) (A.deeper (envOfC "_law_sentence" (defScope s__law_sentence) s.heap.objs.size a__law_sentence cdv))) :
    SSs (cxOf (L2.CX P w) P w K mg base ["jar", "total", "within", "form", "one"] "_law_sentence" (defScope s__law_sentence) a__law_sentence cdv A outer s H E) (fun c d _ H => E c d H) (B__law_sentence f__law_pick f__law_simple f__law_sentence) (defBody s__law_sentence) := by
  have tk : Takes (cxOf (L2.CX P w) P w K mg base ["jar", "total", "within", "form", "one"] "_law_sentence" (defScope s__law_sentence) a__law_sentence cdv A outer s H E) (fun c d _ H => E c d H) := takes_of rfl rfl rfl rfl
  have hp : PassesOwn (model P w) (cxOf (L2.CX P w) P w K mg base ["jar", "total", "within", "form", "one"] "_law_sentence" (defScope s__law_sentence) a__law_sentence cdv A outer s H E).A (cxOf (L2.CX P w) P w K mg base ["jar", "total", "within", "form", "one"] "_law_sentence" (defScope s__law_sentence) a__law_sentence cdv A outer s H E).env (cxOf (L2.CX P w) P w K mg base ["jar", "total", "within", "form", "one"] "_law_sentence" (defScope s__law_sentence) a__law_sentence cdv A outer s H E).xe := passes_of rfl
  exact ss_cons (ss_set (ps_set (i := 3) sc__law_sentence.nd rfl (by first | exact Or.inl rfl | exact Or.inr rfl) (se_bin op_mulB ops_mul (se_call (ks := []) F__law_pick hr rfl T.g__law_pick T.F__law_pick.kp T.kd__law_pick_2 gl__law_pick_2 tk (sa_cons (se_var (pv 0)) (sa_cons (se_int) (sa_nil))) (sk_nil)) (se_T call_int1 cs_int rfl T.n_int bt_int (sa_cons (se_cmp op_gt opb_gt (se_var (pv 2)) (se_int) (nomark _)) (sa_nil)))))) <| ss_cons (ss_if (st_cmp op_lt opb_lt (se_var (pv 3)) (se_int) (nomark _)) (ss_one (ss_ret (se_call (ks := []) F__law_simple hr rfl T.g__law_simple T.F__law_simple.kp T.kd__law_simple_2 gl__law_simple_2 tk (sa_cons (se_var (pv 0)) (sa_cons (se_var (pv 1)) (sa_nil))) (sk_nil)))) (ss_nil)) <| ss_cons (ss_if (st_cmp (op_eqD hr.units) opb_eq (se_var (pv 3)) (se_int) (nomark _)) (ss_one (ss_ret (se_tup (sa_cons (se_str) (sa_cons (se_call (ks := []) F__law_sentence hr rfl T.g__law_sentence T.F__law_sentence.kp T.kd__law_sentence_3 gl__law_sentence_3 tk (sa_cons (se_var (pv 0)) (sa_cons (se_var (pv 1)) (sa_cons (se_bin op_sub ops_sub (se_var (pv 2)) (se_int)) (sa_nil)))) (sk_nil)) (sa_nil)))))) (ss_nil)) <| ss_cons (ss_set (ps_set (i := 4) sc__law_sentence.nd rfl (by first | exact Or.inl rfl | exact Or.inr rfl) (se_call (ks := []) F__law_sentence hr rfl T.g__law_sentence T.F__law_sentence.kp T.kd__law_sentence_3 gl__law_sentence_3 tk (sa_cons (se_var (pv 0)) (sa_cons (se_var (pv 1)) (sa_cons (se_bin op_sub ops_sub (se_var (pv 2)) (se_int)) (sa_nil)))) (sk_nil)))) <| ss_one (ss_ret (se_tup (sa_cons (se_ix (se_lst (sa_cons (se_str) (sa_cons (se_str) (sa_nil)))) (se_bin op_sub ops_sub (se_var (pv 3)) (se_int)) (fun _ _ => rfl)) (sa_cons (se_var (pv 4)) (sa_cons (se_call (ks := []) F__law_sentence hr rfl T.g__law_sentence T.F__law_sentence.kp T.kd__law_sentence_3 gl__law_sentence_3 tk (sa_cons (se_var (pv 0)) (sa_cons (se_var (pv 1)) (sa_cons (se_bin op_sub ops_sub (se_var (pv 2)) (se_int)) (sa_nil)))) (sk_nil)) (sa_nil))))))
theorem w__law_written (T : Txt K w mg a_many_of a_atoms_of a_show_sentence a_number_in a_simple_in a_places_between a_both_in a_sentence_in a_read_sentence a_common_part a_wheel_of a_breaking a_sought_by a_Put_init a_Put_weights_in a_Put_into a_Put_is_number a_puts_at a_any_of a_plainly_some a_plainly a__law_mix a__law_jar a__law_pick a__law_simple a__law_sentence a__law_written a__law_same a_law d_many_of d_atoms_of d_show_sentence d_number_in d_simple_in d_places_between d_both_in d_sentence_in d_read_sentence d_common_part d_wheel_of d_breaking d_sought_by d_Put_init d_Put_weights_in d_Put_into d_Put_is_number d_puts_at d_any_of d_plainly_some d_plainly d__law_mix d__law_jar d__law_pick d__law_simple d__law_sentence d__law_written d__law_same d_law C_Put) {j : Nat} {f__law_written : Fn} (F__law_written : FnD P w K mg base (j + 1) a__law_written d__law_written ["sentence"] f__law_written) (cdv : Value) (A : Around) (outer : List Env) (s : Shared) (H : Hp) (E : XK) (hr : Room (j + 1) (A.deeper (envOfC "_law_written" (defScope s__law_written) s.heap.objs.size a__law_written cdv))) :
    SSs (cxOf (L2.CX P w) P w K mg base ["sentence", "both", "text", "number", "one", "weight"] "_law_written" (defScope s__law_written) a__law_written cdv A outer s H E) (fun c d _ H => E c d H) (B__law_written f__law_written) (defBody s__law_written) := by
  have tk : Takes (cxOf (L2.CX P w) P w K mg base ["sentence", "both", "text", "number", "one", "weight"] "_law_written" (defScope s__law_written) a__law_written cdv A outer s H E) (fun c d _ H => E c d H) := takes_of rfl rfl rfl rfl
  have hp : PassesOwn (model P w) (cxOf (L2.CX P w) P w K mg base ["sentence", "both", "text", "number", "one", "weight"] "_law_written" (defScope s__law_written) a__law_written cdv A outer s H E).A (cxOf (L2.CX P w) P w K mg base ["sentence", "both", "text", "number", "one", "weight"] "_law_written" (defScope s__law_written) a__law_written cdv A outer s H E).env (cxOf (L2.CX P w) P w K mg base ["sentence", "both", "text", "number", "one", "weight"] "_law_written" (defScope s__law_written) a__law_written cdv A outer s H E).xe := passes_of rfl
  exact ss_cons (ss_if (st_cmp (op_eqD hr.units) opb_eq (se_ix (se_var (pv 0)) (se_int) (fun _ _ => rfl)) (se_str) (nomark _)) (ss_one (ss_ret (se_bin op_addA ops_add (se_str) (se_call (ks := []) F__law_written hr rfl T.g__law_written T.F__law_written.kp T.kd__law_written_1 gl__law_written_1 tk (sa_cons (se_ix (se_var (pv 0)) (se_int) (fun _ _ => rfl)) (sa_nil)) (sk_nil))))) (ss_nil)) <| ss_cons (ss_if (st_cmp op_in_seq opb_in (se_ix (se_var (pv 0)) (se_int) (fun _ _ => rfl)) (se_tup (sa_cons (se_str) (sa_cons (se_str) (sa_nil)))) rfl) (ss_cons (ss_lc (own := [("one", 4)]) (i := 1) rfl sc__law_written.nd rfl rfl (sw_true rfl rfl rfl (by decide +kernel)) (si_seq (se_slice (se_var (pv 0)) (so_some (se_int)) (so_none))) (blkOk_by (N := ["sentence", "both", "text", "number", "one", "weight"]) (sc := defScope s__law_written) (own := [("one", 4)]) (by decide +kernel)) (fun _ _ _ _ _ => sg_name (pg_name (i := 4) sc__law_written.nd rfl (by first | exact Or.inl rfl | exact Or.inr rfl)) (by decide)) (fun _ _ _ _ _ => pts_yes) (fun _ _ _ _ _ => se_call (ks := []) F__law_written hr rfl T.g__law_written T.F__law_written.kp T.kd__law_written_1 gl__law_written_1 takes0 (sa_cons (se_var (pv 4)) (sa_nil)) (sk_nil))) <| ss_one (ss_ret (se_bin op_addA ops_add (se_bin op_addA ops_add (se_str) (se_mt PySem.F.plainAttrs_str PySem.F.slot_str_join PySem.F.type_str_join mt_join mts_join (se_bin op_addA ops_add (se_bin op_addA ops_add (se_str) (se_ix (se_var (pv 0)) (se_int) (fun _ _ => rfl))) (se_str)) (sa_cons (se_var (pv 1)) (sa_nil)))) (se_str)))) (ss_nil)) <| ss_cons (ss_set (ps_set (i := 2) sc__law_written.nd rfl (by first | exact Or.inl rfl | exact Or.inr rfl) (se_bin op_addA ops_add (se_bin op_addA ops_add (se_ix (se_var (pv 0)) (se_int) (fun _ _ => rfl)) (se_str)) (se_mt PySem.F.plainAttrs_str PySem.F.slot_str_join PySem.F.type_str_join mt_join mts_join (se_str) (sa_cons (se_lc (own := [("weight", 5)]) rfl sc__law_written.nd (si_seq (se_ix (se_var (pv 0)) (se_int) (fun _ _ => rfl))) (blkOk_by (N := ["sentence", "both", "text", "number", "one", "weight"]) (sc := defScope s__law_written) (own := [("weight", 5)]) (by decide +kernel)) (fun _ _ _ _ _ => sg_name (pg_name (i := 5) sc__law_written.nd rfl (by first | exact Or.inl rfl | exact Or.inr rfl)) (by decide)) (fun _ _ _ _ _ => pts_yes) (fun _ _ _ _ _ => se_T call_strA cs_str rfl T.n_str bt_str (sa_cons (se_var (pv 5)) (sa_nil)))) (sa_nil)))))) <| ss_cons (ss_for (sl := [3]) hp rfl (si_seq (se_slice (se_var (pv 0)) (so_some (se_int)) (so_none))) (sg_name (pg_name (i := 3) sc__law_written.nd rfl (by first | exact Or.inl rfl | exact Or.inr rfl)) (by decide)) (ss_one (ss_set (ps_set (i := 2) sc__law_written.nd rfl (by first | exact Or.inl rfl | exact Or.inr rfl) (se_bin op_addA ops_add (se_bin op_addA ops_add (se_var (pv 2)) (se_str)) (se_T call_strA cs_str rfl T.n_str bt_str (sa_cons (se_var (pv 3)) (sa_nil)))))))) <| ss_one (ss_ret (se_var (pv 2)))
theorem w__law_same (T : Txt K w mg a_many_of a_atoms_of a_show_sentence a_number_in a_simple_in a_places_between a_both_in a_sentence_in a_read_sentence a_common_part a_wheel_of a_breaking a_sought_by a_Put_init a_Put_weights_in a_Put_into a_Put_is_number a_puts_at a_any_of a_plainly_some a_plainly a__law_mix a__law_jar a__law_pick a__law_simple a__law_sentence a__law_written a__law_same a_law d_many_of d_atoms_of d_show_sentence d_number_in d_simple_in d_places_between d_both_in d_sentence_in d_read_sentence d_common_part d_wheel_of d_breaking d_sought_by d_Put_init d_Put_weights_in d_Put_into d_Put_is_number d_puts_at d_any_of d_plainly_some d_plainly d__law_mix d__law_jar d__law_pick d__law_simple d__law_sentence d__law_written d__law_same d_law C_Put) {j : Nat} {f__law_same : Fn} (F__law_same : FnD P w K mg base (j + 1) a__law_same d__law_same ["found", "due"] f__law_same) (cdv : Value) (A : Around) (outer : List Env) (s : Shared) (H : Hp) (E : XK) (hr : Room (j + 1) (A.deeper (envOfC "_law_same" (defScope s__law_same) s.heap.objs.size a__law_same cdv))) :
    SSs (cxOf (L2.CX P w) P w K mg base ["found", "due", "one", "other"] "_law_same" (defScope s__law_same) a__law_same cdv A outer s H E) (fun c d _ H => E c d H) (B__law_same f__law_same) (defBody s__law_same) := by
  have tk : Takes (cxOf (L2.CX P w) P w K mg base ["found", "due", "one", "other"] "_law_same" (defScope s__law_same) a__law_same cdv A outer s H E) (fun c d _ H => E c d H) := takes_of rfl rfl rfl rfl
  have hp : PassesOwn (model P w) (cxOf (L2.CX P w) P w K mg base ["found", "due", "one", "other"] "_law_same" (defScope s__law_same) a__law_same cdv A outer s H E).A (cxOf (L2.CX P w) P w K mg base ["found", "due", "one", "other"] "_law_same" (defScope s__law_same) a__law_same cdv A outer s H E).env (cxOf (L2.CX P w) P w K mg base ["found", "due", "one", "other"] "_law_same" (defScope s__law_same) a__law_same cdv A outer s H E).xe := passes_of rfl
  exact ss_cons (ss_if (st_cmp op_isN opb_is (se_var (pv 1)) (se_non) (nomark _)) (ss_one (ss_ret (se_cmp op_isN opb_is (se_var (pv 0)) (se_non) (nomark _)))) (ss_nil)) <| ss_cons (ss_if (isi_pt T.isi_bool rfl T.n_isinstance rfl T.n_bool bt_bool (se_var (pv 1))) (ss_one (ss_ret (se_and (isi_pe T.isi_bool rfl T.n_isinstance rfl T.n_bool bt_bool (se_var (pv 0))) (se_one (se_cmp (op_eqD hr.units) opb_eq (se_var (pv 0)) (se_var (pv 1)) (nomark _)))))) (ss_nil)) <| ss_cons (ss_if (isi_pt T.isi_int rfl T.n_isinstance rfl T.n_int bt_int (se_var (pv 1))) (ss_one (ss_ret (se_and (isi_pe T.isi_int rfl T.n_isinstance rfl T.n_int bt_int (se_var (pv 0))) (se_and (se_not (isi_pe T.isi_bool rfl T.n_isinstance rfl T.n_bool bt_bool (se_var (pv 0)))) (se_one (se_cmp (op_eqD hr.units) opb_eq (se_var (pv 0)) (se_var (pv 1)) (nomark _))))))) (ss_nil)) <| ss_cons (ss_if (isi_pt T.isi_str rfl T.n_isinstance rfl T.n_str bt_str (se_var (pv 1))) (ss_one (ss_ret (se_and (isi_pe T.isi_str rfl T.n_isinstance rfl T.n_str bt_str (se_var (pv 0))) (se_one (se_cmp (op_eqD hr.units) opb_eq (se_var (pv 0)) (se_var (pv 1)) (nomark _)))))) (ss_nil)) <| ss_cons (ss_if (st_w (sw_or (st_cmp (op_neD hr.units) opb_ne (isi_pe T.isi_tuple rfl T.n_isinstance rfl T.n_tuple bt_tuple (se_var (pv 1))) (isi_pe T.isi_tuple rfl T.n_isinstance rfl T.n_tuple bt_tuple (se_var (pv 0))) (nomark _)) (sw_or1 (st_cmp (op_neD hr.units) opb_ne (isi_pe T.isi_list rfl T.n_isinstance rfl T.n_list bt_list (se_var (pv 1))) (isi_pe T.isi_list rfl T.n_isinstance rfl T.n_list bt_list (se_var (pv 0))) (nomark _))))) (ss_one (ss_ret (se_bl))) (ss_nil)) <| ss_cons (ss_if (st_cmp (op_neD hr.units) opb_ne (se_B call_len cs_len rfl T.n_len bt_len (sa_cons (se_var (pv 0)) (sa_nil))) (se_B call_len cs_len rfl T.n_len bt_len (sa_cons (se_var (pv 1)) (sa_nil))) (nomark _)) (ss_one (ss_ret (se_bl))) (ss_nil)) <| ss_one (ss_ret (se_B (cr_all rfl) cs_all rfl T.n_all bt_all (sa_cons (se_lc (own := [("one", 2), ("other", 3)]) rfl sc__law_same.nd (si_zip rfl T.n_zip (sa_cons (se_var (pv 0)) (sa_cons (se_var (pv 1)) (sa_nil)))) (blkOk_by (N := ["found", "due", "one", "other"]) (sc := defScope s__law_same) (own := [("one", 2), ("other", 3)]) (by decide +kernel)) (fun _ _ _ _ _ => sg_seq rfl (sgs_cons (sg_name (pg_name (i := 2) sc__law_same.nd rfl (by first | exact Or.inl rfl | exact Or.inr rfl)) (by decide)) (sgs_cons (sg_name (pg_name (i := 3) sc__law_same.nd rfl (by first | exact Or.inl rfl | exact Or.inr rfl)) (by decide)) (sgs_nil)))) (fun _ _ _ _ _ => pts_yes) (fun _ _ _ _ _ => se_call (ks := []) F__law_same hr rfl T.g__law_same T.F__law_same.kp T.kd__law_same_2 gl__law_same_2 takes0 (sa_cons (se_var (pv 2)) (sa_cons (se_var (pv 3)) (sa_nil))) (sk_nil))) (sa_nil))))
theorem w_law (T : Txt K w mg a_many_of a_atoms_of a_show_sentence a_number_in a_simple_in a_places_between a_both_in a_sentence_in a_read_sentence a_common_part a_wheel_of a_breaking a_sought_by a_Put_init a_Put_weights_in a_Put_into a_Put_is_number a_puts_at a_any_of a_plainly_some a_plainly a__law_mix a__law_jar a__law_pick a__law_simple a__law_sentence a__law_written a__law_same a_law d_many_of d_atoms_of d_show_sentence d_number_in d_simple_in d_places_between d_both_in d_sentence_in d_read_sentence d_common_part d_wheel_of d_breaking d_sought_by d_Put_init d_Put_weights_in d_Put_into d_Put_is_number d_puts_at d_any_of d_plainly_some d_plainly d__law_mix d__law_jar d__law_pick d__law_simple d__law_sentence d__law_written d__law_same d_law C_Put) {j : Nat} {f__law_jar f__law_pick f__law_sentence f__law_written f_show_sentence f__law_same f_read_sentence f_plainly : Fn} (F__law_jar : FnD P w K mg base (j + 1) a__law_jar d__law_jar ["script"] f__law_jar) (F__law_pick : FnD P w K mg base (j + 1) a__law_pick d__law_pick ["jar", "total"] f__law_pick) (F__law_sentence : FnD P w K mg base (j + 1) a__law_sentence d__law_sentence ["jar", "total", "within"] f__law_sentence) (F__law_written : FnD P w K mg base (j + 1) a__law_written d__law_written ["sentence"] f__law_written) (F_show_sentence : FnD P w K mg base (j + 1) a_show_sentence d_show_sentence ["sentence"] f_show_sentence) (F__law_same : FnD P w K mg base (j + 1) a__law_same d__law_same ["found", "due"] f__law_same) (F_read_sentence : FnD P w K mg base (j + 1) a_read_sentence d_read_sentence ["text"] f_read_sentence) (F_plainly : FnD P w K mg base (j + 1) a_plainly d_plainly ["question"] f_plainly) (cdv : Value) (A : Around) (outer : List Env) (s : Shared) (H : Hp) (E : XK) (hr : Room (j + 1) (A.deeper (envOfC "law" (defScope s_law) s.heap.objs.size a_law cdv))) :
    SSs (cxOf (L2.CX P w) P w K mg base ["script", "jar", "turn", "sentence", "text", "question", "told"] "law" (defScope s_law) a_law cdv A outer s H E) (fun c d _ H => E c d H) (B_law f__law_jar f__law_pick f__law_sentence f__law_written f_show_sentence f__law_same f_read_sentence f_plainly) (defBody s_law) := by
  have tk : Takes (cxOf (L2.CX P w) P w K mg base ["script", "jar", "turn", "sentence", "text", "question", "told"] "law" (defScope s_law) a_law cdv A outer s H E) (fun c d _ H => E c d H) := takes_of rfl rfl rfl rfl
  have hp : PassesOwn (model P w) (cxOf (L2.CX P w) P w K mg base ["script", "jar", "turn", "sentence", "text", "question", "told"] "law" (defScope s_law) a_law cdv A outer s H E).A (cxOf (L2.CX P w) P w K mg base ["script", "jar", "turn", "sentence", "text", "question", "told"] "law" (defScope s_law) a_law cdv A outer s H E).env (cxOf (L2.CX P w) P w K mg base ["script", "jar", "turn", "sentence", "text", "question", "told"] "law" (defScope s_law) a_law cdv A outer s H E).xe := passes_of rfl
  exact ss_cons (ss_set (ps_set (i := 1) sc_law.nd rfl (by first | exact Or.inl rfl | exact Or.inr rfl) (se_call (ks := []) F__law_jar hr rfl T.g__law_jar T.F__law_jar.kp T.kd__law_jar_1 gl__law_jar_1 tk (sa_cons (se_var (pv 0)) (sa_nil)) (sk_nil)))) <| ss_cons (ss_for (sl := [2]) hp rfl (si_rng1 rfl T.n_range (sa_cons (se_int) (sa_nil))) (sg_name (pg_name (i := 2) sc_law.nd rfl (by first | exact Or.inl rfl | exact Or.inr rfl)) (by decide)) (ss_cons (ss_set (ps_set (i := 3) sc_law.nd rfl (by first | exact Or.inl rfl | exact Or.inr rfl) (se_call (ks := []) F__law_sentence hr rfl T.g__law_sentence T.F__law_sentence.kp T.kd__law_sentence_3 gl__law_sentence_3 tk (sa_cons (se_var (pv 1)) (sa_cons (se_bin op_addA ops_add (se_int) (se_call (ks := []) F__law_pick hr rfl T.g__law_pick T.F__law_pick.kp T.kd__law_pick_2 gl__law_pick_2 tk (sa_cons (se_var (pv 1)) (sa_cons (se_int) (sa_nil))) (sk_nil))) (sa_cons (se_int) (sa_nil)))) (sk_nil)))) <| ss_cons (ss_set (ps_set (i := 4) sc_law.nd rfl (by first | exact Or.inl rfl | exact Or.inr rfl) (se_call (ks := []) F__law_written hr rfl T.g__law_written T.F__law_written.kp T.kd__law_written_1 gl__law_written_1 tk (sa_cons (se_var (pv 3)) (sa_nil)) (sk_nil)))) <| ss_one (ss_if (st_w (sw_or (st_not (st_tru (se_call (ks := []) F__law_same hr rfl T.g__law_same T.F__law_same.kp T.kd__law_same_2 gl__law_same_2 tk (sa_cons (se_call (ks := []) F_show_sentence hr rfl T.g_show_sentence T.F_show_sentence.kp T.kd_show_sentence_1 gl_show_sentence_1 tk (sa_cons (se_var (pv 3)) (sa_nil)) (sk_nil)) (sa_cons (se_var (pv 4)) (sa_nil))) (sk_nil)))) (sw_or1 (st_not (st_tru (se_call (ks := []) F__law_same hr rfl T.g__law_same T.F__law_same.kp T.kd__law_same_2 gl__law_same_2 tk (sa_cons (se_call (ks := []) F_read_sentence hr rfl T.g_read_sentence T.F_read_sentence.kp T.kd_read_sentence_1 gl_read_sentence_1 tk (sa_cons (se_var (pv 4)) (sa_nil)) (sk_nil)) (sa_cons (se_var (pv 3)) (sa_nil))) (sk_nil))))))) (ss_one (ss_ret (se_bl))) (ss_nil)))) <| ss_cons (ss_set (ps_set (i := 5) sc_law.nd rfl (by first | exact Or.inl rfl | exact Or.inr rfl) (se_tup (sa_cons (se_ix (se_lst (sa_cons (se_str) (sa_cons (se_str) (sa_nil)))) (se_call (ks := []) F__law_pick hr rfl T.g__law_pick T.F__law_pick.kp T.kd__law_pick_2 gl__law_pick_2 tk (sa_cons (se_var (pv 1)) (sa_cons (se_int) (sa_nil))) (sk_nil)) (fun _ _ => rfl)) (sa_cons (se_call (ks := []) F__law_sentence hr rfl T.g__law_sentence T.F__law_sentence.kp T.kd__law_sentence_3 gl__law_sentence_3 tk (sa_cons (se_var (pv 1)) (sa_cons (se_bin op_addA ops_add (se_int) (se_call (ks := []) F__law_pick hr rfl T.g__law_pick T.F__law_pick.kp T.kd__law_pick_2 gl__law_pick_2 tk (sa_cons (se_var (pv 1)) (sa_cons (se_int) (sa_nil))) (sk_nil))) (sa_cons (se_call (ks := []) F__law_pick hr rfl T.g__law_pick T.F__law_pick.kp T.kd__law_pick_2 gl__law_pick_2 tk (sa_cons (se_var (pv 1)) (sa_cons (se_int) (sa_nil))) (sk_nil)) (sa_nil)))) (sk_nil)) (sa_nil)))))) <| ss_cons (ss_set (ps_set (i := 6) sc_law.nd rfl (by first | exact Or.inl rfl | exact Or.inr rfl) (se_call (ks := []) F_plainly hr rfl T.g_plainly T.F_plainly.kp T.kd_plainly_1 gl_plainly_1 tk (sa_cons (se_var (pv 5)) (sa_nil)) (sk_nil)))) <| ss_one (ss_ret (se_call (ks := []) F__law_same hr rfl T.g__law_same T.F__law_same.kp T.kd__law_same_2 gl__law_same_2 tk (sa_cons (se_call (ks := []) F_show_sentence hr rfl T.g_show_sentence T.F_show_sentence.kp T.kd_show_sentence_1 gl_show_sentence_1 tk (sa_cons (se_var (pv 6)) (sa_nil)) (sk_nil)) (sa_cons (se_call (ks := []) F__law_written hr rfl T.g__law_written T.F__law_written.kp T.kd__law_written_1 gl__law_written_1 tk (sa_cons (se_var (pv 6)) (sa_nil)) (sk_nil)) (sa_nil))) (sk_nil)))
theorem ok_many_of (T : Txt K w mg a_many_of a_atoms_of a_show_sentence a_number_in a_simple_in a_places_between a_both_in a_sentence_in a_read_sentence a_common_part a_wheel_of a_breaking a_sought_by a_Put_init a_Put_weights_in a_Put_into a_Put_is_number a_puts_at a_any_of a_plainly_some a_plainly a__law_mix a__law_jar a__law_pick a__law_simple a__law_sentence a__law_written a__law_same a_law d_many_of d_atoms_of d_show_sentence d_number_in d_simple_in d_places_between d_both_in d_sentence_in d_read_sentence d_common_part d_wheel_of d_breaking d_sought_by d_Put_init d_Put_weights_in d_Put_into d_Put_is_number d_puts_at d_any_of d_plainly_some d_plainly d__law_mix d__law_jar d__law_pick d__law_simple d__law_sentence d__law_written d__law_same d_law C_Put) : ∀ k : Nat, FnD P w K mg base k a_many_of d_many_of ["sentence"] (S_many_of k)
  | 0 => fnD_stuck
  | 1 => fnD_stuck
  | j + 2 => fnD_of T.F_many_of sc_many_of rfl fun cdv A outer s H E hr => w_many_of T  cdv A outer s H E hr
theorem ok_atoms_of (T : Txt K w mg a_many_of a_atoms_of a_show_sentence a_number_in a_simple_in a_places_between a_both_in a_sentence_in a_read_sentence a_common_part a_wheel_of a_breaking a_sought_by a_Put_init a_Put_weights_in a_Put_into a_Put_is_number a_puts_at a_any_of a_plainly_some a_plainly a__law_mix a__law_jar a__law_pick a__law_simple a__law_sentence a__law_written a__law_same a_law d_many_of d_atoms_of d_show_sentence d_number_in d_simple_in d_places_between d_both_in d_sentence_in d_read_sentence d_common_part d_wheel_of d_breaking d_sought_by d_Put_init d_Put_weights_in d_Put_into d_Put_is_number d_puts_at d_any_of d_plainly_some d_plainly d__law_mix d__law_jar d__law_pick d__law_simple d__law_sentence d__law_written d__law_same d_law C_Put) : ∀ k : Nat, FnD P w K mg base k a_atoms_of d_atoms_of ["sentence"] (S_atoms_of k)
  | 0 => fnD_stuck
  | 1 => fnD_stuck
  | j + 2 => fnD_of T.F_atoms_of sc_atoms_of rfl fun cdv A outer s H E hr => w_atoms_of T (ok_atoms_of T (j + 1)) cdv A outer s H E hr
theorem ok_show_sentence (T : Txt K w mg a_many_of a_atoms_of a_show_sentence a_number_in a_simple_in a_places_between a_both_in a_sentence_in a_read_sentence a_common_part a_wheel_of a_breaking a_sought_by a_Put_init a_Put_weights_in a_Put_into a_Put_is_number a_puts_at a_any_of a_plainly_some a_plainly a__law_mix a__law_jar a__law_pick a__law_simple a__law_sentence a__law_written a__law_same a_law d_many_of d_atoms_of d_show_sentence d_number_in d_simple_in d_places_between d_both_in d_sentence_in d_read_sentence d_common_part d_wheel_of d_breaking d_sought_by d_Put_init d_Put_weights_in d_Put_into d_Put_is_number d_puts_at d_any_of d_plainly_some d_plainly d__law_mix d__law_jar d__law_pick d__law_simple d__law_sentence d__law_written d__law_same d_law C_Put) : ∀ k : Nat, FnD P w K mg base k a_show_sentence d_show_sentence ["sentence"] (S_show_sentence k)
  | 0 => fnD_stuck
  | 1 => fnD_stuck
  | j + 2 => fnD_of T.F_show_sentence sc_show_sentence rfl fun cdv A outer s H E hr => w_show_sentence T (ok_show_sentence T (j + 1)) cdv A outer s H E hr
theorem ok_number_in (T : Txt K w mg a_many_of a_atoms_of a_show_sentence a_number_in a_simple_in a_places_between a_both_in a_sentence_in a_read_sentence a_common_part a_wheel_of a_breaking a_sought_by a_Put_init a_Put_weights_in a_Put_into a_Put_is_number a_puts_at a_any_of a_plainly_some a_plainly a__law_mix a__law_jar a__law_pick a__law_simple a__law_sentence a__law_written a__law_same a_law d_many_of d_atoms_of d_show_sentence d_number_in d_simple_in d_places_between d_both_in d_sentence_in d_read_sentence d_common_part d_wheel_of d_breaking d_sought_by d_Put_init d_Put_weights_in d_Put_into d_Put_is_number d_puts_at d_any_of d_plainly_some d_plainly d__law_mix d__law_jar d__law_pick d__law_simple d__law_sentence d__law_written d__law_same d_law C_Put) : ∀ k : Nat, FnD P w K mg base k a_number_in d_number_in ["word", "least", "most"] (S_number_in k)
  | 0 => fnD_stuck
  | 1 => fnD_stuck
  | j + 2 => fnD_of T.F_number_in sc_number_in rfl fun cdv A outer s H E hr => w_number_in T  cdv A outer s H E hr
theorem ok_simple_in (T : Txt K w mg a_many_of a_atoms_of a_show_sentence a_number_in a_simple_in a_places_between a_both_in a_sentence_in a_read_sentence a_common_part a_wheel_of a_breaking a_sought_by a_Put_init a_Put_weights_in a_Put_into a_Put_is_number a_puts_at a_any_of a_plainly_some a_plainly a__law_mix a__law_jar a__law_pick a__law_simple a__law_sentence a__law_written a__law_same a_law d_many_of d_atoms_of d_show_sentence d_number_in d_simple_in d_places_between d_both_in d_sentence_in d_read_sentence d_common_part d_wheel_of d_breaking d_sought_by d_Put_init d_Put_weights_in d_Put_into d_Put_is_number d_puts_at d_any_of d_plainly_some d_plainly d__law_mix d__law_jar d__law_pick d__law_simple d__law_sentence d__law_written d__law_same d_law C_Put) : ∀ k : Nat, FnD P w K mg base k a_simple_in d_simple_in ["text"] (S_simple_in k)
  | 0 => fnD_stuck
  | 1 => fnD_stuck
  | j + 2 => fnD_of T.F_simple_in sc_simple_in rfl fun cdv A outer s H E hr => w_simple_in T (ok_number_in T (j + 1)) cdv A outer s H E hr
theorem ok_places_between (T : Txt K w mg a_many_of a_atoms_of a_show_sentence a_number_in a_simple_in a_places_between a_both_in a_sentence_in a_read_sentence a_common_part a_wheel_of a_breaking a_sought_by a_Put_init a_Put_weights_in a_Put_into a_Put_is_number a_puts_at a_any_of a_plainly_some a_plainly a__law_mix a__law_jar a__law_pick a__law_simple a__law_sentence a__law_written a__law_same a_law d_many_of d_atoms_of d_show_sentence d_number_in d_simple_in d_places_between d_both_in d_sentence_in d_read_sentence d_common_part d_wheel_of d_breaking d_sought_by d_Put_init d_Put_weights_in d_Put_into d_Put_is_number d_puts_at d_any_of d_plainly_some d_plainly d__law_mix d__law_jar d__law_pick d__law_simple d__law_sentence d__law_written d__law_same d_law C_Put) : ∀ k : Nat, FnD P w K mg base k a_places_between d_places_between ["text"] (S_places_between k)
  | 0 => fnD_stuck
  | 1 => fnD_stuck
  | j + 2 => fnD_of T.F_places_between sc_places_between rfl fun cdv A outer s H E hr => w_places_between T  cdv A outer s H E hr
mutual
theorem ok_both_in (T : Txt K w mg a_many_of a_atoms_of a_show_sentence a_number_in a_simple_in a_places_between a_both_in a_sentence_in a_read_sentence a_common_part a_wheel_of a_breaking a_sought_by a_Put_init a_Put_weights_in a_Put_into a_Put_is_number a_puts_at a_any_of a_plainly_some a_plainly a__law_mix a__law_jar a__law_pick a__law_simple a__law_sentence a__law_written a__law_same a_law d_many_of d_atoms_of d_show_sentence d_number_in d_simple_in d_places_between d_both_in d_sentence_in d_read_sentence d_common_part d_wheel_of d_breaking d_sought_by d_Put_init d_Put_weights_in d_Put_into d_Put_is_number d_puts_at d_any_of d_plainly_some d_plainly d__law_mix d__law_jar d__law_pick d__law_simple d__law_sentence d__law_written d__law_same d_law C_Put) : ∀ k : Nat, FnD P w K mg base k a_both_in d_both_in ["text", "within"] (S_both_in k)
  | 0 => fnD_stuck
  | 1 => fnD_stuck
  | j + 2 => fnD_of T.F_both_in sc_both_in rfl fun cdv A outer s H E hr => w_both_in T (ok_places_between T (j + 1)) (ok_sentence_in T (j + 1)) cdv A outer s H E hr
theorem ok_sentence_in (T : Txt K w mg a_many_of a_atoms_of a_show_sentence a_number_in a_simple_in a_places_between a_both_in a_sentence_in a_read_sentence a_common_part a_wheel_of a_breaking a_sought_by a_Put_init a_Put_weights_in a_Put_into a_Put_is_number a_puts_at a_any_of a_plainly_some a_plainly a__law_mix a__law_jar a__law_pick a__law_simple a__law_sentence a__law_written a__law_same a_law d_many_of d_atoms_of d_show_sentence d_number_in d_simple_in d_places_between d_both_in d_sentence_in d_read_sentence d_common_part d_wheel_of d_breaking d_sought_by d_Put_init d_Put_weights_in d_Put_into d_Put_is_number d_puts_at d_any_of d_plainly_some d_plainly d__law_mix d__law_jar d__law_pick d__law_simple d__law_sentence d__law_written d__law_same d_law C_Put) : ∀ k : Nat, FnD P w K mg base k a_sentence_in d_sentence_in ["text", "within"] (S_sentence_in k)
  | 0 => fnD_stuck
  | 1 => fnD_stuck
  | j + 2 => fnD_of T.F_sentence_in sc_sentence_in rfl fun cdv A outer s H E hr => w_sentence_in T (ok_sentence_in T (j + 1)) (ok_both_in T (j + 1)) (ok_simple_in T (j + 1)) cdv A outer s H E hr
end
theorem ok_read_sentence (T : Txt K w mg a_many_of a_atoms_of a_show_sentence a_number_in a_simple_in a_places_between a_both_in a_sentence_in a_read_sentence a_common_part a_wheel_of a_breaking a_sought_by a_Put_init a_Put_weights_in a_Put_into a_Put_is_number a_puts_at a_any_of a_plainly_some a_plainly a__law_mix a__law_jar a__law_pick a__law_simple a__law_sentence a__law_written a__law_same a_law d_many_of d_atoms_of d_show_sentence d_number_in d_simple_in d_places_between d_both_in d_sentence_in d_read_sentence d_common_part d_wheel_of d_breaking d_sought_by d_Put_init d_Put_weights_in d_Put_into d_Put_is_number d_puts_at d_any_of d_plainly_some d_plainly d__law_mix d__law_jar d__law_pick d__law_simple d__law_sentence d__law_written d__law_same d_law C_Put) : ∀ k : Nat, FnD P w K mg base k a_read_sentence d_read_sentence ["text"] (S_read_sentence k)
  | 0 => fnD_stuck
  | 1 => fnD_stuck
  | j + 2 => fnD_of T.F_read_sentence sc_read_sentence rfl fun cdv A outer s H E hr => w_read_sentence T (ok_sentence_in T (j + 1)) (ok_atoms_of T (j + 1)) cdv A outer s H E hr
theorem ok_common_part (T : Txt K w mg a_many_of a_atoms_of a_show_sentence a_number_in a_simple_in a_places_between a_both_in a_sentence_in a_read_sentence a_common_part a_wheel_of a_breaking a_sought_by a_Put_init a_Put_weights_in a_Put_into a_Put_is_number a_puts_at a_any_of a_plainly_some a_plainly a__law_mix a__law_jar a__law_pick a__law_simple a__law_sentence a__law_written a__law_same a_law d_many_of d_atoms_of d_show_sentence d_number_in d_simple_in d_places_between d_both_in d_sentence_in d_read_sentence d_common_part d_wheel_of d_breaking d_sought_by d_Put_init d_Put_weights_in d_Put_into d_Put_is_number d_puts_at d_any_of d_plainly_some d_plainly d__law_mix d__law_jar d__law_pick d__law_simple d__law_sentence d__law_written d__law_same d_law C_Put) : ∀ k : Nat, FnD P w K mg base k a_common_part d_common_part ["one", "other"] (S_common_part k)
  | 0 => fnD_stuck
  | 1 => fnD_stuck
  | j + 2 => fnD_of T.F_common_part sc_common_part rfl fun cdv A outer s H E hr => w_common_part T  cdv A outer s H E hr
theorem ok_wheel_of (T : Txt K w mg a_many_of a_atoms_of a_show_sentence a_number_in a_simple_in a_places_between a_both_in a_sentence_in a_read_sentence a_common_part a_wheel_of a_breaking a_sought_by a_Put_init a_Put_weights_in a_Put_into a_Put_is_number a_puts_at a_any_of a_plainly_some a_plainly a__law_mix a__law_jar a__law_pick a__law_simple a__law_sentence a__law_written a__law_same a_law d_many_of d_atoms_of d_show_sentence d_number_in d_simple_in d_places_between d_both_in d_sentence_in d_read_sentence d_common_part d_wheel_of d_breaking d_sought_by d_Put_init d_Put_weights_in d_Put_into d_Put_is_number d_puts_at d_any_of d_plainly_some d_plainly d__law_mix d__law_jar d__law_pick d__law_simple d__law_sentence d__law_written d__law_same d_law C_Put) : ∀ k : Nat, FnD P w K mg base k a_wheel_of d_wheel_of ["sentence"] (S_wheel_of k)
  | 0 => fnD_stuck
  | 1 => fnD_stuck
  | j + 2 => fnD_of T.F_wheel_of sc_wheel_of rfl fun cdv A outer s H E hr => w_wheel_of T (ok_atoms_of T (j + 1)) (ok_common_part T (j + 1)) cdv A outer s H E hr
theorem ok_breaking (T : Txt K w mg a_many_of a_atoms_of a_show_sentence a_number_in a_simple_in a_places_between a_both_in a_sentence_in a_read_sentence a_common_part a_wheel_of a_breaking a_sought_by a_Put_init a_Put_weights_in a_Put_into a_Put_is_number a_puts_at a_any_of a_plainly_some a_plainly a__law_mix a__law_jar a__law_pick a__law_simple a__law_sentence a__law_written a__law_same a_law d_many_of d_atoms_of d_show_sentence d_number_in d_simple_in d_places_between d_both_in d_sentence_in d_read_sentence d_common_part d_wheel_of d_breaking d_sought_by d_Put_init d_Put_weights_in d_Put_into d_Put_is_number d_puts_at d_any_of d_plainly_some d_plainly d__law_mix d__law_jar d__law_pick d__law_simple d__law_sentence d__law_written d__law_same d_law C_Put) : ∀ k : Nat, FnD P w K mg base k a_breaking d_breaking ["sentence"] (S_breaking k)
  | 0 => fnD_stuck
  | 1 => fnD_stuck
  | j + 2 => fnD_of T.F_breaking sc_breaking rfl fun cdv A outer s H E hr => w_breaking T (ok_atoms_of T (j + 1)) cdv A outer s H E hr
theorem ok_sought_by (T : Txt K w mg a_many_of a_atoms_of a_show_sentence a_number_in a_simple_in a_places_between a_both_in a_sentence_in a_read_sentence a_common_part a_wheel_of a_breaking a_sought_by a_Put_init a_Put_weights_in a_Put_into a_Put_is_number a_puts_at a_any_of a_plainly_some a_plainly a__law_mix a__law_jar a__law_pick a__law_simple a__law_sentence a__law_written a__law_same a_law d_many_of d_atoms_of d_show_sentence d_number_in d_simple_in d_places_between d_both_in d_sentence_in d_read_sentence d_common_part d_wheel_of d_breaking d_sought_by d_Put_init d_Put_weights_in d_Put_into d_Put_is_number d_puts_at d_any_of d_plainly_some d_plainly d__law_mix d__law_jar d__law_pick d__law_simple d__law_sentence d__law_written d__law_same d_law C_Put) : ∀ k : Nat, FnD P w K mg base k a_sought_by d_sought_by ["question"] (S_sought_by k)
  | 0 => fnD_stuck
  | 1 => fnD_stuck
  | j + 2 => fnD_of T.F_sought_by sc_sought_by rfl fun cdv A outer s H E hr => w_sought_by T  cdv A outer s H E hr
theorem ok_Put_init (T : Txt K w mg a_many_of a_atoms_of a_show_sentence a_number_in a_simple_in a_places_between a_both_in a_sentence_in a_read_sentence a_common_part a_wheel_of a_breaking a_sought_by a_Put_init a_Put_weights_in a_Put_into a_Put_is_number a_puts_at a_any_of a_plainly_some a_plainly a__law_mix a__law_jar a__law_pick a__law_simple a__law_sentence a__law_written a__law_same a_law d_many_of d_atoms_of d_show_sentence d_number_in d_simple_in d_places_between d_both_in d_sentence_in d_read_sentence d_common_part d_wheel_of d_breaking d_sought_by d_Put_init d_Put_weights_in d_Put_into d_Put_is_number d_puts_at d_any_of d_plainly_some d_plainly d__law_mix d__law_jar d__law_pick d__law_simple d__law_sentence d__law_written d__law_same d_law C_Put) : ∀ k : Nat, FnD P w K mg base k a_Put_init d_Put_init ["self", "weights", "number", "by"] (S_Put_init k)
  | 0 => fnD_stuck
  | 1 => fnD_stuck
  | j + 2 => fnD_of T.F_Put_init sc_Put_init rfl fun cdv A outer s H E hr => w_Put_init T  cdv A outer s H E hr
theorem ok_Put_weights_in (T : Txt K w mg a_many_of a_atoms_of a_show_sentence a_number_in a_simple_in a_places_between a_both_in a_sentence_in a_read_sentence a_common_part a_wheel_of a_breaking a_sought_by a_Put_init a_Put_weights_in a_Put_into a_Put_is_number a_puts_at a_any_of a_plainly_some a_plainly a__law_mix a__law_jar a__law_pick a__law_simple a__law_sentence a__law_written a__law_same a_law d_many_of d_atoms_of d_show_sentence d_number_in d_simple_in d_places_between d_both_in d_sentence_in d_read_sentence d_common_part d_wheel_of d_breaking d_sought_by d_Put_init d_Put_weights_in d_Put_into d_Put_is_number d_puts_at d_any_of d_plainly_some d_plainly d__law_mix d__law_jar d__law_pick d__law_simple d__law_sentence d__law_written d__law_same d_law C_Put) : ∀ k : Nat, FnD P w K mg base k a_Put_weights_in d_Put_weights_in ["self", "weights"] (S_Put_weights_in k)
  | 0 => fnD_stuck
  | 1 => fnD_stuck
  | j + 2 => fnD_of T.F_Put_weights_in sc_Put_weights_in rfl fun cdv A outer s H E hr => w_Put_weights_in T  cdv A outer s H E hr
theorem ok_Put_into (T : Txt K w mg a_many_of a_atoms_of a_show_sentence a_number_in a_simple_in a_places_between a_both_in a_sentence_in a_read_sentence a_common_part a_wheel_of a_breaking a_sought_by a_Put_init a_Put_weights_in a_Put_into a_Put_is_number a_puts_at a_any_of a_plainly_some a_plainly a__law_mix a__law_jar a__law_pick a__law_simple a__law_sentence a__law_written a__law_same a_law d_many_of d_atoms_of d_show_sentence d_number_in d_simple_in d_places_between d_both_in d_sentence_in d_read_sentence d_common_part d_wheel_of d_breaking d_sought_by d_Put_init d_Put_weights_in d_Put_into d_Put_is_number d_puts_at d_any_of d_plainly_some d_plainly d__law_mix d__law_jar d__law_pick d__law_simple d__law_sentence d__law_written d__law_same d_law C_Put) : ∀ k : Nat, FnD P w K mg base k a_Put_into d_Put_into ["self", "sentence"] (S_Put_into k)
  | 0 => fnD_stuck
  | 1 => fnD_stuck
  | j + 2 => fnD_of T.F_Put_into sc_Put_into rfl fun cdv A outer s H E hr => w_Put_into T (ok_Put_weights_in T (j + 1)) (ok_Put_into T (j + 1)) cdv A outer s H E hr
theorem ok_Put_is_number (T : Txt K w mg a_many_of a_atoms_of a_show_sentence a_number_in a_simple_in a_places_between a_both_in a_sentence_in a_read_sentence a_common_part a_wheel_of a_breaking a_sought_by a_Put_init a_Put_weights_in a_Put_into a_Put_is_number a_puts_at a_any_of a_plainly_some a_plainly a__law_mix a__law_jar a__law_pick a__law_simple a__law_sentence a__law_written a__law_same a_law d_many_of d_atoms_of d_show_sentence d_number_in d_simple_in d_places_between d_both_in d_sentence_in d_read_sentence d_common_part d_wheel_of d_breaking d_sought_by d_Put_init d_Put_weights_in d_Put_into d_Put_is_number d_puts_at d_any_of d_plainly_some d_plainly d__law_mix d__law_jar d__law_pick d__law_simple d__law_sentence d__law_written d__law_same d_law C_Put) : ∀ k : Nat, FnD P w K mg base k a_Put_is_number d_Put_is_number ["self"] (S_Put_is_number k)
  | 0 => fnD_stuck
  | 1 => fnD_stuck
  | j + 2 => fnD_of T.F_Put_is_number sc_Put_is_number rfl fun cdv A outer s H E hr => w_Put_is_number T  cdv A outer s H E hr
theorem ok_puts_at (T : Txt K w mg a_many_of a_atoms_of a_show_sentence a_number_in a_simple_in a_places_between a_both_in a_sentence_in a_read_sentence a_common_part a_wheel_of a_breaking a_sought_by a_Put_init a_Put_weights_in a_Put_into a_Put_is_number a_puts_at a_any_of a_plainly_some a_plainly a__law_mix a__law_jar a__law_pick a__law_simple a__law_sentence a__law_written a__law_same a_law d_many_of d_atoms_of d_show_sentence d_number_in d_simple_in d_places_between d_both_in d_sentence_in d_read_sentence d_common_part d_wheel_of d_breaking d_sought_by d_Put_init d_Put_weights_in d_Put_into d_Put_is_number d_puts_at d_any_of d_plainly_some d_plainly d__law_mix d__law_jar d__law_pick d__law_simple d__law_sentence d__law_written d__law_same d_law C_Put) : ∀ k : Nat, FnD P w K mg base k a_puts_at d_puts_at ["atom", "wheel"] (S_puts_at k)
  | 0 => fnD_stuck
  | 1 => fnD_stuck
  | j + 2 => fnD_of T.F_puts_at sc_puts_at rfl fun cdv A outer s H E hr => w_puts_at T (ok_Put_init T j) cdv A outer s H E hr
theorem ok_any_of (T : Txt K w mg a_many_of a_atoms_of a_show_sentence a_number_in a_simple_in a_places_between a_both_in a_sentence_in a_read_sentence a_common_part a_wheel_of a_breaking a_sought_by a_Put_init a_Put_weights_in a_Put_into a_Put_is_number a_puts_at a_any_of a_plainly_some a_plainly a__law_mix a__law_jar a__law_pick a__law_simple a__law_sentence a__law_written a__law_same a_law d_many_of d_atoms_of d_show_sentence d_number_in d_simple_in d_places_between d_both_in d_sentence_in d_read_sentence d_common_part d_wheel_of d_breaking d_sought_by d_Put_init d_Put_weights_in d_Put_into d_Put_is_number d_puts_at d_any_of d_plainly_some d_plainly d__law_mix d__law_jar d__law_pick d__law_simple d__law_sentence d__law_written d__law_same d_law C_Put) : ∀ k : Nat, FnD P w K mg base k a_any_of d_any_of ["sentences"] (S_any_of k)
  | 0 => fnD_stuck
  | 1 => fnD_stuck
  | j + 2 => fnD_of T.F_any_of sc_any_of rfl fun cdv A outer s H E hr => w_any_of T  cdv A outer s H E hr
theorem ok_plainly_some (T : Txt K w mg a_many_of a_atoms_of a_show_sentence a_number_in a_simple_in a_places_between a_both_in a_sentence_in a_read_sentence a_common_part a_wheel_of a_breaking a_sought_by a_Put_init a_Put_weights_in a_Put_into a_Put_is_number a_puts_at a_any_of a_plainly_some a_plainly a__law_mix a__law_jar a__law_pick a__law_simple a__law_sentence a__law_written a__law_same a_law d_many_of d_atoms_of d_show_sentence d_number_in d_simple_in d_places_between d_both_in d_sentence_in d_read_sentence d_common_part d_wheel_of d_breaking d_sought_by d_Put_init d_Put_weights_in d_Put_into d_Put_is_number d_puts_at d_any_of d_plainly_some d_plainly d__law_mix d__law_jar d__law_pick d__law_simple d__law_sentence d__law_written d__law_same d_law C_Put) : ∀ k : Nat, FnD P w K mg base k a_plainly_some d_plainly_some ["sentence"] (S_plainly_some k)
  | 0 => fnD_stuck
  | 1 => fnD_stuck
  | j + 2 => fnD_of T.F_plainly_some sc_plainly_some rfl fun cdv A outer s H E hr => w_plainly_some T (ok_wheel_of T (j + 1)) (ok_many_of T (j + 1)) (ok_Put_into T (j + 1)) (ok_breaking T (j + 1)) (ok_puts_at T (j + 1)) (ok_Put_is_number T (j + 1)) (ok_any_of T (j + 1)) (ok_Put_init T j) cdv A outer s H E hr
theorem ok_plainly (T : Txt K w mg a_many_of a_atoms_of a_show_sentence a_number_in a_simple_in a_places_between a_both_in a_sentence_in a_read_sentence a_common_part a_wheel_of a_breaking a_sought_by a_Put_init a_Put_weights_in a_Put_into a_Put_is_number a_puts_at a_any_of a_plainly_some a_plainly a__law_mix a__law_jar a__law_pick a__law_simple a__law_sentence a__law_written a__law_same a_law d_many_of d_atoms_of d_show_sentence d_number_in d_simple_in d_places_between d_both_in d_sentence_in d_read_sentence d_common_part d_wheel_of d_breaking d_sought_by d_Put_init d_Put_weights_in d_Put_into d_Put_is_number d_puts_at d_any_of d_plainly_some d_plainly d__law_mix d__law_jar d__law_pick d__law_simple d__law_sentence d__law_written d__law_same d_law C_Put) : ∀ k : Nat, FnD P w K mg base k a_plainly d_plainly ["question"] (S_plainly k)
  | 0 => fnD_stuck
  | 1 => fnD_stuck
  | j + 2 => fnD_of T.F_plainly sc_plainly rfl fun cdv A outer s H E hr => w_plainly T (ok_sought_by T (j + 1)) (ok_plainly_some T (j + 1)) cdv A outer s H E hr
theorem ok__law_mix (T : Txt K w mg a_many_of a_atoms_of a_show_sentence a_number_in a_simple_in a_places_between a_both_in a_sentence_in a_read_sentence a_common_part a_wheel_of a_breaking a_sought_by a_Put_init a_Put_weights_in a_Put_into a_Put_is_number a_puts_at a_any_of a_plainly_some a_plainly a__law_mix a__law_jar a__law_pick a__law_simple a__law_sentence a__law_written a__law_same a_law d_many_of d_atoms_of d_show_sentence d_number_in d_simple_in d_places_between d_both_in d_sentence_in d_read_sentence d_common_part d_wheel_of d_breaking d_sought_by d_Put_init d_Put_weights_in d_Put_into d_Put_is_number d_puts_at d_any_of d_plainly_some d_plainly d__law_mix d__law_jar d__law_pick d__law_simple d__law_sentence d__law_written d__law_same d_law C_Put) : ∀ k : Nat, FnD P w K mg base k a__law_mix d__law_mix ["one"] (S__law_mix k)
  | 0 => fnD_stuck
  | 1 => fnD_stuck
  | j + 2 => fnD_of T.F__law_mix sc__law_mix rfl fun cdv A outer s H E hr => w__law_mix T  cdv A outer s H E hr
theorem ok__law_jar (T : Txt K w mg a_many_of a_atoms_of a_show_sentence a_number_in a_simple_in a_places_between a_both_in a_sentence_in a_read_sentence a_common_part a_wheel_of a_breaking a_sought_by a_Put_init a_Put_weights_in a_Put_into a_Put_is_number a_puts_at a_any_of a_plainly_some a_plainly a__law_mix a__law_jar a__law_pick a__law_simple a__law_sentence a__law_written a__law_same a_law d_many_of d_atoms_of d_show_sentence d_number_in d_simple_in d_places_between d_both_in d_sentence_in d_read_sentence d_common_part d_wheel_of d_breaking d_sought_by d_Put_init d_Put_weights_in d_Put_into d_Put_is_number d_puts_at d_any_of d_plainly_some d_plainly d__law_mix d__law_jar d__law_pick d__law_simple d__law_sentence d__law_written d__law_same d_law C_Put) : ∀ k : Nat, FnD P w K mg base k a__law_jar d__law_jar ["script"] (S__law_jar k)
  | 0 => fnD_stuck
  | 1 => fnD_stuck
  | j + 2 => fnD_of T.F__law_jar sc__law_jar rfl fun cdv A outer s H E hr => w__law_jar T (ok__law_mix T (j + 1)) cdv A outer s H E hr
theorem ok__law_pick (T : Txt K w mg a_many_of a_atoms_of a_show_sentence a_number_in a_simple_in a_places_between a_both_in a_sentence_in a_read_sentence a_common_part a_wheel_of a_breaking a_sought_by a_Put_init a_Put_weights_in a_Put_into a_Put_is_number a_puts_at a_any_of a_plainly_some a_plainly a__law_mix a__law_jar a__law_pick a__law_simple a__law_sentence a__law_written a__law_same a_law d_many_of d_atoms_of d_show_sentence d_number_in d_simple_in d_places_between d_both_in d_sentence_in d_read_sentence d_common_part d_wheel_of d_breaking d_sought_by d_Put_init d_Put_weights_in d_Put_into d_Put_is_number d_puts_at d_any_of d_plainly_some d_plainly d__law_mix d__law_jar d__law_pick d__law_simple d__law_sentence d__law_written d__law_same d_law C_Put) : ∀ k : Nat, FnD P w K mg base k a__law_pick d__law_pick ["jar", "total"] (S__law_pick k)
  | 0 => fnD_stuck
  | 1 => fnD_stuck
  | j + 2 => fnD_of T.F__law_pick sc__law_pick rfl fun cdv A outer s H E hr => w__law_pick T (ok__law_mix T (j + 1)) cdv A outer s H E hr
theorem ok__law_simple (T : Txt K w mg a_many_of a_atoms_of a_show_sentence a_number_in a_simple_in a_places_between a_both_in a_sentence_in a_read_sentence a_common_part a_wheel_of a_breaking a_sought_by a_Put_init a_Put_weights_in a_Put_into a_Put_is_number a_puts_at a_any_of a_plainly_some a_plainly a__law_mix a__law_jar a__law_pick a__law_simple a__law_sentence a__law_written a__law_same a_law d_many_of d_atoms_of d_show_sentence d_number_in d_simple_in d_places_between d_both_in d_sentence_in d_read_sentence d_common_part d_wheel_of d_breaking d_sought_by d_Put_init d_Put_weights_in d_Put_into d_Put_is_number d_puts_at d_any_of d_plainly_some d_plainly d__law_mix d__law_jar d__law_pick d__law_simple d__law_sentence d__law_written d__law_same d_law C_Put) : ∀ k : Nat, FnD P w K mg base k a__law_simple d__law_simple ["jar", "total"] (S__law_simple k)
  | 0 => fnD_stuck
  | 1 => fnD_stuck
  | j + 2 => fnD_of T.F__law_simple sc__law_simple rfl fun cdv A outer s H E hr => w__law_simple T (ok__law_pick T (j + 1)) cdv A outer s H E hr
theorem ok__law_sentence (T : Txt K w mg a_many_of a_atoms_of a_show_sentence a_number_in a_simple_in a_places_between a_both_in a_sentence_in a_read_sentence a_common_part a_wheel_of a_breaking a_sought_by a_Put_init a_Put_weights_in a_Put_into a_Put_is_number a_puts_at a_any_of a_plainly_some a_plainly a__law_mix a__law_jar a__law_pick a__law_simple a__law_sentence a__law_written a__law_same a_law d_many_of d_atoms_of d_show_sentence d_number_in d_simple_in d_places_between d_both_in d_sentence_in d_read_sentence d_common_part d_wheel_of d_breaking d_sought_by d_Put_init d_Put_weights_in d_Put_into d_Put_is_number d_puts_at d_any_of d_plainly_some d_plainly d__law_mix d__law_jar d__law_pick d__law_simple d__law_sentence d__law_written d__law_same d_law C_Put) : ∀ k : Nat, FnD P w K mg base k a__law_sentence d__law_sentence ["jar", "total", "within"] (S__law_sentence k)
  | 0 => fnD_stuck
  | 1 => fnD_stuck
  | j + 2 => fnD_of T.F__law_sentence sc__law_sentence rfl fun cdv A outer s H E hr => w__law_sentence T (ok__law_pick T (j + 1)) (ok__law_simple T (j + 1)) (ok__law_sentence T (j + 1)) cdv A outer s H E hr
theorem ok__law_written (T : Txt K w mg a_many_of a_atoms_of a_show_sentence a_number_in a_simple_in a_places_between a_both_in a_sentence_in a_read_sentence a_common_part a_wheel_of a_breaking a_sought_by a_Put_init a_Put_weights_in a_Put_into a_Put_is_number a_puts_at a_any_of a_plainly_some a_plainly a__law_mix a__law_jar a__law_pick a__law_simple a__law_sentence a__law_written a__law_same a_law d_many_of d_atoms_of d_show_sentence d_number_in d_simple_in d_places_between d_both_in d_sentence_in d_read_sentence d_common_part d_wheel_of d_breaking d_sought_by d_Put_init d_Put_weights_in d_Put_into d_Put_is_number d_puts_at d_any_of d_plainly_some d_plainly d__law_mix d__law_jar d__law_pick d__law_simple d__law_sentence d__law_written d__law_same d_law C_Put) : ∀ k : Nat, FnD P w K mg base k a__law_written d__law_written ["sentence"] (S__law_written k)
  | 0 => fnD_stuck
  | 1 => fnD_stuck
  | j + 2 => fnD_of T.F__law_written sc__law_written rfl fun cdv A outer s H E hr => w__law_written T (ok__law_written T (j + 1)) cdv A outer s H E hr
theorem ok__law_same (T : Txt K w mg a_many_of a_atoms_of a_show_sentence a_number_in a_simple_in a_places_between a_both_in a_sentence_in a_read_sentence a_common_part a_wheel_of a_breaking a_sought_by a_Put_init a_Put_weights_in a_Put_into a_Put_is_number a_puts_at a_any_of a_plainly_some a_plainly a__law_mix a__law_jar a__law_pick a__law_simple a__law_sentence a__law_written a__law_same a_law d_many_of d_atoms_of d_show_sentence d_number_in d_simple_in d_places_between d_both_in d_sentence_in d_read_sentence d_common_part d_wheel_of d_breaking d_sought_by d_Put_init d_Put_weights_in d_Put_into d_Put_is_number d_puts_at d_any_of d_plainly_some d_plainly d__law_mix d__law_jar d__law_pick d__law_simple d__law_sentence d__law_written d__law_same d_law C_Put) : ∀ k : Nat, FnD P w K mg base k a__law_same d__law_same ["found", "due"] (S__law_same k)
  | 0 => fnD_stuck
  | 1 => fnD_stuck
  | j + 2 => fnD_of T.F__law_same sc__law_same rfl fun cdv A outer s H E hr => w__law_same T (ok__law_same T (j + 1)) cdv A outer s H E hr
theorem ok_law (T : Txt K w mg a_many_of a_atoms_of a_show_sentence a_number_in a_simple_in a_places_between a_both_in a_sentence_in a_read_sentence a_common_part a_wheel_of a_breaking a_sought_by a_Put_init a_Put_weights_in a_Put_into a_Put_is_number a_puts_at a_any_of a_plainly_some a_plainly a__law_mix a__law_jar a__law_pick a__law_simple a__law_sentence a__law_written a__law_same a_law d_many_of d_atoms_of d_show_sentence d_number_in d_simple_in d_places_between d_both_in d_sentence_in d_read_sentence d_common_part d_wheel_of d_breaking d_sought_by d_Put_init d_Put_weights_in d_Put_into d_Put_is_number d_puts_at d_any_of d_plainly_some d_plainly d__law_mix d__law_jar d__law_pick d__law_simple d__law_sentence d__law_written d__law_same d_law C_Put) : ∀ k : Nat, FnD P w K mg base k a_law d_law ["script"] (S_law k)
  | 0 => fnD_stuck
  | 1 => fnD_stuck
  | j + 2 => fnD_of T.F_law sc_law rfl fun cdv A outer s H E hr => w_law T (ok__law_jar T (j + 1)) (ok__law_pick T (j + 1)) (ok__law_sentence T (j + 1)) (ok__law_written T (j + 1)) (ok_show_sentence T (j + 1)) (ok__law_same T (j + 1)) (ok_read_sentence T (j + 1)) (ok_plainly T (j + 1)) cdv A outer s H E hr
end
end K83

namespace K83
open PySem DL
/-! ### sentences -/
inductive Sen where
  | least (w : List Int) (c : Int)
  | rest (w : List Int) (m r : Int)
  | neg (a : Sen)
  | con (a b : Sen)
  | dis (a b : Sen)
def enc : Sen → D
  | .least w c => .tup [.str "least", .tup (il w), .int c]
  | .rest w m r => .tup [.str "rest", .tup (il w), .int m, .int r]
  | .neg a => .tup [.str "not", enc a]
  | .con a b => .tup [.str "and", enc a, enc b]
  | .dis a b => .tup [.str "or", enc a, enc b]
def Val (n : Nat) : Sen → Prop
  | .least w _ => w.length = n
  | .rest w m _ => w.length = n ∧ 0 < m
  | .neg a => Val n a
  | .con a b => Val n a ∧ Val n b
  | .dis a b => Val n a ∧ Val n b
def dep : Sen → Nat
  | .least _ _ => 0
  | .rest _ _ _ => 0
  | .neg a => dep a + 1
  | .con a b => max (dep a) (dep b) + 1
  | .dis a b => max (dep a) (dep b) + 1
def dot (w c : List Int) : Int := ((w.zip c).map fun p => p.1 * p.2).sum
def so (c : List Int) : Sen → Bool
  | .least w b => decide (b ≤ dot w c)
  | .rest w m r => decide (dot w c % m = r)
  | .neg a => !so c a
  | .con a b => so c a && so c b
  | .dis a b => so c a || so c b
def Sm (c : List Int) : Prop := ∀ x ∈ c, -18446744073709551616 < x ∧ x < 18446744073709551616
theorem pairs_il (w c : List Int) : pairs (il w) (il c) = (w.zip c).map fun p => D.tup [.int p.1, .int p.2] := by
  unfold pairs il
  rw [List.zipWith_map]
  rw [List.zip, List.map_zipWith]
theorem enc_w (s : Sen) : ∃ x ds, enc s = .tup (.str x :: ds) := by cases s <;> exact ⟨_, _, rfl⟩
theorem star_tup {x : D} {ds : List D} {r : MGs} {Γ : DEnv} {M : Sto} (h : ds.length ≤ 16000) : mGStar 2 1 r (.tup (x :: ds)) Γ M = r [x, .lst ds] Γ M := by
  simp
  intro h2; omega
theorem ok_least : PyData.strOk (Str.ofString "least") = true := by decide +kernel
theorem ok_rest : PyData.strOk (Str.ofString "rest") = true := by decide +kernel
theorem ok_not : PyData.strOk (Str.ofString "not") = true := by decide +kernel
theorem ok_and : PyData.strOk (Str.ofString "and") = true := by decide +kernel
theorem ok_or : PyData.strOk (Str.ofString "or") = true := by decide +kernel
@[simp] theorem ne_least_rest : (Str.ofString "least" = Str.ofString "rest") = False := by simp only [eq_iff_iff, iff_false]; decide +kernel
@[simp] theorem ne_least_not : (Str.ofString "least" = Str.ofString "not") = False := by simp only [eq_iff_iff, iff_false]; decide +kernel
@[simp] theorem ne_least_and : (Str.ofString "least" = Str.ofString "and") = False := by simp only [eq_iff_iff, iff_false]; decide +kernel
@[simp] theorem ne_least_or : (Str.ofString "least" = Str.ofString "or") = False := by simp only [eq_iff_iff, iff_false]; decide +kernel
@[simp] theorem ne_rest_least : (Str.ofString "rest" = Str.ofString "least") = False := by simp only [eq_iff_iff, iff_false]; decide +kernel
@[simp] theorem ne_rest_not : (Str.ofString "rest" = Str.ofString "not") = False := by simp only [eq_iff_iff, iff_false]; decide +kernel
@[simp] theorem ne_rest_and : (Str.ofString "rest" = Str.ofString "and") = False := by simp only [eq_iff_iff, iff_false]; decide +kernel
@[simp] theorem ne_rest_or : (Str.ofString "rest" = Str.ofString "or") = False := by simp only [eq_iff_iff, iff_false]; decide +kernel
@[simp] theorem ne_not_least : (Str.ofString "not" = Str.ofString "least") = False := by simp only [eq_iff_iff, iff_false]; decide +kernel
@[simp] theorem ne_not_rest : (Str.ofString "not" = Str.ofString "rest") = False := by simp only [eq_iff_iff, iff_false]; decide +kernel
@[simp] theorem ne_not_and : (Str.ofString "not" = Str.ofString "and") = False := by simp only [eq_iff_iff, iff_false]; decide +kernel
@[simp] theorem ne_not_or : (Str.ofString "not" = Str.ofString "or") = False := by simp only [eq_iff_iff, iff_false]; decide +kernel
@[simp] theorem ne_and_least : (Str.ofString "and" = Str.ofString "least") = False := by simp only [eq_iff_iff, iff_false]; decide +kernel
@[simp] theorem ne_and_rest : (Str.ofString "and" = Str.ofString "rest") = False := by simp only [eq_iff_iff, iff_false]; decide +kernel
@[simp] theorem ne_and_not : (Str.ofString "and" = Str.ofString "not") = False := by simp only [eq_iff_iff, iff_false]; decide +kernel
@[simp] theorem ne_and_or : (Str.ofString "and" = Str.ofString "or") = False := by simp only [eq_iff_iff, iff_false]; decide +kernel
@[simp] theorem ne_or_least : (Str.ofString "or" = Str.ofString "least") = False := by simp only [eq_iff_iff, iff_false]; decide +kernel
@[simp] theorem ne_or_rest : (Str.ofString "or" = Str.ofString "rest") = False := by simp only [eq_iff_iff, iff_false]; decide +kernel
@[simp] theorem ne_or_not : (Str.ofString "or" = Str.ofString "not") = False := by simp only [eq_iff_iff, iff_false]; decide +kernel
@[simp] theorem ne_or_and : (Str.ofString "or" = Str.ofString "and") = False := by simp only [eq_iff_iff, iff_false]; decide +kernel
end K83

namespace K83
open PySem DL
/-! ### how many weights -/
def fst : Sen → Sen
  | .neg a => fst a
  | .con a _ => fst a
  | .dis a _ => fst a
  | s => s
theorem fst_atom {n : Nat} : ∀ {s : Sen}, Val n s → ∃ x w r, enc (fst s) = .tup (.str x :: .tup (il w) :: r) ∧ w.length = n
  | .least w c, h => ⟨_, _, _, rfl, h⟩
  | .rest w m r, h => ⟨_, _, _, rfl, h.1⟩
  | .neg a, h => fst_atom (s := a) h
  | .con a b, h => fst_atom (s := a) h.1
  | .dis a b, h => fst_atom (s := a) h.1
theorem many_wh {M : Sto} : ∀ (s : Sen) (N : Nat), dep s < N → whL (mCmpT fNotIn (mBin fIx (mVar 0) (mC (.int 0))) (mTup (mCons (mC (.str "least")) (mCons (mC (.str "rest")) (mNil))))) (mAsg (mBin fIx (mVar 0) (mC (.int 1))) (mGN 0)) N [some (enc s)] M = .nx [some (enc (fst s))] M
  | s, 0, h => by omega
  | .least w c, N + 1, h => by unfold whL; simp [enc, fst, notin2]
  | .rest w m r, N + 1, h => by unfold whL; simp [enc, fst, notin2]
  | .neg a, N + 1, h => by
    unfold whL
    have := many_wh (M := M) a N (by unfold dep at h; omega)
    simp [enc, fst, notin2]
    simpa using this
  | .con a b, N + 1, h => by
    unfold whL
    have := many_wh (M := M) a N (by unfold dep at h; omega)
    simp [enc, fst, notin2]
    simpa using this
  | .dis a b, N + 1, h => by
    unfold whL
    have := many_wh (M := M) a N (by unfold dep at h; omega)
    simp [enc, fst, notin2]
    simpa using this
theorem many_of {n k : Nat} {s : Sen} {M : Sto} (h : Val n s) (hd : dep s < 1000) : S_many_of (k + 2) [enc s] M = .ok (.int n) M := by
  rw [S_many_of_eq, def_ap]
  obtain ⟨x, w, r, e, hw⟩ := fst_atom h
  have := many_wh (M := M) s fuel hd
  simp only [B_many_of, e_seq, e_while]
  simp only [List.map_cons, List.map_nil, List.length_cons, List.length_nil, List.replicate, Nat.sub_self, Nat.zero_add, List.append_nil]
  rw [this, e]
  simp [hw]
/-! ### the law's tape -/
end K83

namespace K83
open PySem DL
/-- sentences of weights that are not too great -/
def Wt (w : List Int) : Prop := ∀ x ∈ w, -900 ≤ x ∧ x ≤ 900
def Nice : Sen → Prop
  | .least w _ => Wt w
  | .rest w m _ => Wt w ∧ 1 ≤ m ∧ m ≤ 900
  | .neg a => Nice a
  | .con a b => Nice a ∧ Nice b
  | .dis a b => Nice a ∧ Nice b
def cnt : Sen → Nat
  | .least _ _ => 1
  | .rest _ _ _ => 1
  | .neg a => cnt a
  | .con a b => cnt a + cnt b
  | .dis a b => cnt a + cnt b
end K83

namespace K83
open PySem DL
/-! ### shares -/
theorem cp_wh {M : Sto} : ∀ (N x y : Nat), y < N → whL (mCmpT fNe (mVar 1) (mC (.int 0))) (mPar 0 1 (mCons (mVar 1) (mCons (mBin fMod (mVar 0) (mVar 1)) (mNil)))) N [some (.int x), some (.int y)] M = .nx [some (.int (Nat.gcd x y : Nat)), some (.int 0)] M
  | 0, x, y, h => by omega
  | N + 1, x, 0, h => by unfold whL; simp
  | N + 1, x, y + 1, h => by
    unfold whL
    have hm : fMod (.int x) (.int ((y + 1 : Nat) : Int)) M = .ok (.int ((x % (y + 1) : Nat) : Int)) M := by
      rw [mod_i (by omega)]; rfl
    have ih := cp_wh (M := M) N (y + 1) (x % (y + 1)) (by have := Nat.mod_lt x (show 0 < y + 1 by omega); omega)
    have hg : Nat.gcd x (y + 1) = Nat.gcd (y + 1) (x % (y + 1)) := by rw [Nat.gcd_comm, Nat.gcd_rec, Nat.gcd_comm]
    have hne : decide (((y + 1 : Nat) : Int) = 0) = false := decide_eq_false (by omega)
    simp only [e_cmpT, e_var, e_c, List.getElem?_cons_succ, List.getElem?_cons_zero, Res.bind_ok, ne_i, liftB_some, hne, toS_ok, Bool.not_false, if_true, e_par, e_cons, e_bin, hm, e_nil, e_par2, List.set_cons_zero, List.set_cons_succ]
    rw [ih, hg]
theorem common_part {L : Nat} {a b : Int} {M : Sto} (hL : 2 ≤ L) (hb : b.natAbs < 1000) : S_common_part L [.int a, .int b] M = .ok (.int (Nat.gcd a.natAbs b.natAbs : Nat)) M := by
  obtain ⟨k, rfl⟩ : ∃ k, L = k + 2 := ⟨L - 2, by omega⟩
  rw [S_common_part_eq, def_ap]
  have := cp_wh (M := M) fuel a.natAbs b.natAbs hb
  simp only [B_common_part, e_seq, e_while]
  simp
  simp only [this]
  simp
/-! ### atoms -/
def atoms : Sen → List Sen
  | .neg a => atoms a
  | .con a b => atoms a ++ atoms b
  | .dis a b => atoms a ++ atoms b
  | s => [s]
def isAtom : Sen → Prop
  | .least _ _ => True
  | .rest _ _ _ => True
  | _ => False
theorem atoms_ok {n : Nat} : ∀ {s : Sen}, Val n s → Nice s → (atoms s).length = cnt s ∧ ∀ a ∈ atoms s, Val n a ∧ Nice a ∧ isAtom a
  | .least w c, v, h => ⟨rfl, fun a ha => by simp [atoms] at ha; subst ha; exact ⟨v, h, trivial⟩⟩
  | .rest w m r, v, h => ⟨rfl, fun a ha => by simp [atoms] at ha; subst ha; exact ⟨v, h, trivial⟩⟩
  | .neg a, v, h => atoms_ok (s := a) v h
  | .con a b, v, h => by
    obtain ⟨l1, h1⟩ := atoms_ok v.1 h.1
    obtain ⟨l2, h2⟩ := atoms_ok v.2 h.2
    exact ⟨by simp [atoms, cnt, l1, l2], fun x hx => by
      rcases List.mem_append.mp hx with hx | hx
      · exact h1 x hx
      · exact h2 x hx⟩
  | .dis a b, v, h => by
    obtain ⟨l1, h1⟩ := atoms_ok v.1 h.1
    obtain ⟨l2, h2⟩ := atoms_ok v.2 h.2
    exact ⟨by simp [atoms, cnt, l1, l2], fun x hx => by
      rcases List.mem_append.mp hx with hx | hx
      · exact h1 x hx
      · exact h2 x hx⟩
theorem atoms_len : ∀ (s : Sen), (atoms s).length = cnt s
  | .least w c => rfl
  | .rest w m r => rfl
  | .neg a => atoms_len a
  | .con a b => by simp [atoms, cnt, atoms_len a, atoms_len b]
  | .dis a b => by simp [atoms, cnt, atoms_len a, atoms_len b]
theorem atoms_of {M : Sto} : ∀ (s : Sen) (L : Nat), dep s + 2 ≤ L → cnt s ≤ 1000 → S_atoms_of L [enc s] M = .ok (.lst ((atoms s).map enc)) M
  | .least w c, L, hL, _ => by
    obtain ⟨k, rfl⟩ : ∃ k, L = k + 2 := ⟨L - 2, by omega⟩
    rw [S_atoms_of_eq, def_ap]
    simp [B_atoms_of, enc, in2, atoms]
  | .rest w m r, L, hL, _ => by
    obtain ⟨k, rfl⟩ : ∃ k, L = k + 2 := ⟨L - 2, by omega⟩
    rw [S_atoms_of_eq, def_ap]
    simp [B_atoms_of, enc, in2, atoms]
  | .neg a, L, hL, hc => by
    obtain ⟨k, rfl⟩ : ∃ k, L = k + 2 := ⟨L - 2, by omega⟩
    have ha := atoms_of (M := M) a (k + 1) (by unfold dep at hL; omega) hc
    have hl := atoms_len a
    rw [S_atoms_of_eq, def_ap]
    have l2 : lcL2 (mGN 1) mYes (mIter (mCall 1 0 (S_atoms_of (k + 1)) gd_atoms_of_1 (mCons (mVar 1) mNil) mNil)) (mGN 2) [2] mYes (mVar 2) kT [some (enc (.neg a)), none, none] ([a].map enc) M = .ok ([a].flatMap fun a => (atoms a).map enc) M :=
      lc2_map (c := enc) (r := fun a => (atoms a).map enc) _ fun x hx => ⟨[some (enc (.neg a)), some (enc x), none], (atoms x).map enc, by simp, by simp, by simp at hx; subst hx; simp [ha], by
        exact lc_map (c := enc) (r := enc) _ fun y hy => ⟨[some (enc (.neg a)), some (enc x), some (enc y)], by simp, by simp, by simp⟩⟩
    simp [enc] at l2
    simp [B_atoms_of, enc, in2, atoms, l2]
    unfold cnt at hc
    omega
  | .con a b, L, hL, hc => by
    obtain ⟨k, rfl⟩ : ∃ k, L = k + 2 := ⟨L - 2, by omega⟩
    unfold cnt at hc
    have ha := atoms_of (M := M) a (k + 1) (by unfold dep at hL; omega) (by omega)
    have hb := atoms_of (M := M) b (k + 1) (by unfold dep at hL; omega) (by omega)
    have hl := atoms_len a
    have hl2 := atoms_len b
    rw [S_atoms_of_eq, def_ap]
    have l2 : lcL2 (mGN 1) mYes (mIter (mCall 1 0 (S_atoms_of (k + 1)) gd_atoms_of_1 (mCons (mVar 1) mNil) mNil)) (mGN 2) [2] mYes (mVar 2) kT [some (enc (.con a b)), none, none] ([a, b].map enc) M = .ok ([a, b].flatMap fun a => (atoms a).map enc) M :=
      lc2_map (c := enc) (r := fun a => (atoms a).map enc) _ fun x hx => ⟨[some (enc (.con a b)), some (enc x), none], (atoms x).map enc, by simp, by simp, by simp at hx; rcases hx with rfl | rfl; simp [ha]; simp [hb], by
        exact lc_map (c := enc) (r := enc) _ fun y hy => ⟨[some (enc (.con a b)), some (enc x), some (enc y)], by simp, by simp, by simp⟩⟩
    simp [enc] at l2
    simp [B_atoms_of, enc, in2, atoms, l2]
    omega
  | .dis a b, L, hL, hc => by
    obtain ⟨k, rfl⟩ : ∃ k, L = k + 2 := ⟨L - 2, by omega⟩
    unfold cnt at hc
    have ha := atoms_of (M := M) a (k + 1) (by unfold dep at hL; omega) (by omega)
    have hb := atoms_of (M := M) b (k + 1) (by unfold dep at hL; omega) (by omega)
    have hl := atoms_len a
    have hl2 := atoms_len b
    rw [S_atoms_of_eq, def_ap]
    have l2 : lcL2 (mGN 1) mYes (mIter (mCall 1 0 (S_atoms_of (k + 1)) gd_atoms_of_1 (mCons (mVar 1) mNil) mNil)) (mGN 2) [2] mYes (mVar 2) kT [some (enc (.dis a b)), none, none] ([a, b].map enc) M = .ok ([a, b].flatMap fun a => (atoms a).map enc) M :=
      lc2_map (c := enc) (r := fun a => (atoms a).map enc) _ fun x hx => ⟨[some (enc (.dis a b)), some (enc x), none], (atoms x).map enc, by simp, by simp, by simp at hx; rcases hx with rfl | rfl; simp [ha]; simp [hb], by
        exact lc_map (c := enc) (r := enc) _ fun y hy => ⟨[some (enc (.dis a b)), some (enc x), some (enc y)], by simp, by simp, by simp⟩⟩
    simp [enc] at l2
    simp [B_atoms_of, enc, in2, atoms, l2]
    omega
end K83

namespace K83
open PySem DL
theorem snoc {n : Nat} {w : List Int} (h : w.length = n + 1) : ∃ v l, w = v ++ [l] ∧ v.length = n := by
  have hne : w ≠ [] := fun e => by rw [e] at h; cases h
  refine ⟨w.dropLast, w.getLast hne, (List.dropLast_concat_getLast hne).symm, by simp [h]⟩
theorem star0 {v : List Int} {l : Int} {r : MGs} {Γ : DEnv} {M : Sto} (h : v.length < 16000) : mGStar 2 0 r (.tup (il (v ++ [l]))) Γ M = r [.lst (il v), .int l] Γ M := by
  simp only [e_gstar, sq_tup, il_len, List.length_append, List.length_cons, List.length_nil]
  rw [if_pos (by omega), il_app]
  have e : v.length + (0 + 1) + 1 - 2 = (il v).length := by simp
  rw [e]
  simp [il_cons]
theorem wt_last {v : List Int} {l : Int} (h : Wt (v ++ [l])) : -900 ≤ l ∧ l ≤ 900 := h l (by simp)
theorem ix_last {v : List Int} {l : Int} {M : Sto} : fIx (.tup (il (v ++ [l]))) (.int (-1)) M = .ok (.int l) M := by
  rw [il_app]
  show optR (L2.atI (il v ++ [.int l]) (-1)) M = _
  rw [at_last]
  rfl
end K83

namespace K83
open PySem DL
theorem il_last {v : List Int} {l : Int} : L2.atI (il (v ++ [l])) (-1) = some (.int l) := by
  rw [il_app]
  exact at_last
def brk : Sen → Bool
  | .least w _ => decide (w.getLast? ≠ some 0)
  | _ => false
theorem breaking {n L : Nat} {s : Sen} {M : Sto} (hL : dep s + 4 ≤ L) (v : Val (n + 1) s) (h : Nice s) (hc : cnt s ≤ 1000) : S_breaking L [enc s] M = .ok (.lst (((atoms s).filter brk).map enc)) M := by
  obtain ⟨k, rfl⟩ : ∃ k, L = k + 2 := ⟨L - 2, by omega⟩
  rw [S_breaking_eq, def_ap]
  have ha := atoms_of (M := M) s (k + 1) (by omega) hc
  obtain ⟨al, ao⟩ := atoms_ok v h
  have hlc := lc_filter (g := mGN 1) (M := M) (Γ := [some (enc s), none]) (t := (mAndT (mCmpT fEq (mBin fIx (mVar 1) (mC (.int 0))) (mC (.str "least"))) (mCmpT fNe (mBin fIx (mBin fIx (mVar 1) (mC (.int 1))) (mUn fNeg (mC (.int 1)))) (mC (.int 0)))))
    (e := mVar 1) (c := enc) (r := enc) (p := brk) (atoms s) fun y hy => by
      obtain ⟨vy, ny, iy⟩ := ao y hy
      refine ⟨[some (enc s), some (enc y)], by simp, ?_, fun _ => by simp⟩
      cases y with
      | least w c' =>
        obtain ⟨fore, last, rfl, hl⟩ := snoc vy
        simp [enc, eq_s, ok_least, il_last, brk]
      | rest w m r => simp [enc, eq_s, ok_least, ok_rest, brk]
      | neg _ => exact iy.elim
      | con _ _ => exact iy.elim
      | dis _ _ => exact iy.elim
  simp [B_breaking, ha, hlc]
end K83

namespace K83
open PySem DL
theorem sought {L : Nat} {x : Str} {s : Sen} {M : Sto} (hL : 2 ≤ L) (hx : x = "some" ∨ x = "all") : S_sought_by L [.tup [.str x, enc s]] M = .ok (enc (if x = "some" then s else .neg s)) M := by
  obtain ⟨k, rfl⟩ : ∃ k, L = k + 2 := ⟨L - 2, by omega⟩
  rw [S_sought_by_eq, def_ap]
  have o1 : PyData.strOk (Str.ofString "some") = true := by decide +kernel
  have o2 : PyData.strOk (Str.ofString "all") = true := by decide +kernel
  have ne : (Str.ofString "all" = Str.ofString "some") = False := by simp only [eq_iff_iff, iff_false]; decide +kernel
  rcases hx with rfl | rfl
  · simp [B_sought_by, eq_s, o1]
  · simp [B_sought_by, eq_s, o1, o2, ne, enc]
end K83

namespace K83
open PySem DL
/-! ### the wheel -/
def one : Sen → Nat
  | .rest w m _ => m.natAbs / Nat.gcd m.natAbs (w.getLast?.getD 0).natAbs
  | _ => 1
def whl (as : List Sen) : Nat := as.foldl (fun f a => Nat.lcm f (one a)) 1
theorem whl_snoc {as : List Sen} {a : Sen} : whl (as ++ [a]) = Nat.lcm (whl as) (one a) := by simp [whl]
theorem whl_app {as : List Sen} : ∀ {bs : List Sen}, whl as ∣ whl (as ++ bs)
  | [] => by simp
  | b :: bs => by
    have h1 : whl as ∣ whl (as ++ [b]) := by rw [whl_snoc]; exact Nat.dvd_lcm_left _ _
    have h2 := whl_app (as := as ++ [b]) (bs := bs)
    rw [List.append_assoc] at h2
    exact Nat.dvd_trans h1 h2
theorem one_pos : ∀ {a : Sen}, Nice a → isAtom a → 0 < one a
  | .least _ _, _, _ => Nat.one_pos
  | .rest w m r, h, _ => by
    have h1 : 1 ≤ m := h.2.1
    unfold one
    exact Nat.div_pos (Nat.le_of_dvd (by omega) (Nat.gcd_dvd_left _ _)) (Nat.gcd_pos_of_pos_left _ (by omega))
  | .neg _, _, i => i.elim
  | .con _ _, _, i => i.elim
  | .dis _ _, _, i => i.elim
theorem foldl_pos : ∀ (as : List Sen) (f : Nat), 0 < f → (∀ a ∈ as, 0 < one a) → 0 < as.foldl (fun f a => Nat.lcm f (one a)) f
  | [], f, h, _ => h
  | a :: as, f, h, ha => foldl_pos as _ (Nat.lcm_pos h (ha a (by simp))) fun b hb => ha b (by simp [hb])
theorem whl_pos {as : List Sen} (h : ∀ a ∈ as, 0 < one a) : 0 < whl as := foldl_pos as 1 Nat.one_pos h
theorem whl_mem {as : List Sen} {a : Sen} (h : a ∈ as) : one a ∣ whl as := by
  obtain ⟨l, r, rfl⟩ := List.append_of_mem h
  have : whl (l ++ [a]) ∣ whl (l ++ a :: r) := by
    have := whl_app (as := l ++ [a]) (bs := r)
    rwa [List.append_assoc] at this
  exact Nat.dvd_trans (by rw [whl_snoc]; exact Nat.dvd_lcm_right _ _) this
theorem wheel_of {n L : Nat} {s : Sen} {M : Sto} (hL : dep s + 4 ≤ L) (v : Val (n + 1) s) (h : Nice s) (hc : cnt s ≤ 1000) (hn : n < 1000) (hw : whl (atoms s) ≤ 900) : S_wheel_of L [enc s] M = .ok (.int (whl (atoms s))) M := by
  obtain ⟨k, rfl⟩ : ∃ k, L = k + 2 := ⟨L - 2, by omega⟩
  rw [S_wheel_of_eq, def_ap]
  have ha := atoms_of (M := M) s (k + 1) (by omega) (by omega)
  obtain ⟨al, ao⟩ := atoms_ok v h
  have hpos : 0 < whl (atoms s) := whl_pos fun a ha => one_pos (ao a ha).2.1 (ao a ha).2.2
  obtain ⟨Γ', M', e, a, b, c, d, hΓ, hM⟩ := for_inv (g := mGN 2) (M := M) (Γ := [some (enc s), some (.int 1), none, none, none, none]) (ds := (atoms s).map enc)
    (body := (mIfS (mCmpT fEq (mBin fIx (mVar 2) (mC (.int 0))) (mC (.str "rest"))) (mSeq (mAsg (mBin fIx (mVar 2) (mC (.int 1))) (mGStar 2 0 (mGCons (mGN 3) (mGCons (mGN 4) (mGNil))))) <| mSeq (mAsg (mBin fDiv (mBin fIx (mVar 2) (mC (.int 2))) (mCall 2 0 (S_common_part (k + 1)) gd_common_part_2 (mCons (mBin fIx (mVar 2) (mC (.int 2))) (mCons (mVar 4) (mNil))) (mNil))) (mGN 5)) <| mAsg (mBin fDiv (mBin fMul (mVar 1) (mVar 5)) (mCall 2 0 (S_common_part (k + 1)) gd_common_part_2 (mCons (mVar 1) (mCons (mVar 5) (mNil))) (mNil))) (mGN 1)) (mPass)))
    (I := fun i Γ M' => ∃ (a b c d : Option D), Γ = [some (enc s), some (.int (whl ((atoms s).take i) : Nat)), a, b, c, d] ∧ M' = M)
    ⟨none, none, none, none, rfl, rfl⟩ fun i x Γ M1 hx ⟨a, b, c, d, hΓ, hM⟩ => by
      subst hΓ hM
      rw [List.getElem?_map] at hx
      cases hx2 : (atoms s)[i]? with
      | none => rw [hx2] at hx; cases hx
      | some y =>
        rw [hx2] at hx
        cases hx
        obtain ⟨vy, ny, iy⟩ := ao y (List.mem_of_getElem? hx2)
        have hi : i < (atoms s).length := (List.getElem?_eq_some_iff.mp hx2).1
        have tk : (atoms s).take (i + 1) = (atoms s).take i ++ [y] := by rw [List.take_add_one, hx2]; rfl
        have d1 : whl ((atoms s).take (i + 1)) ∣ whl (atoms s) := by
          have := whl_app (as := (atoms s).take (i + 1)) (bs := (atoms s).drop (i + 1))
          rwa [List.take_append_drop] at this
        have p1 : 0 < whl ((atoms s).take (i + 1)) := Nat.pos_of_dvd_of_pos d1 hpos
        have l1 : whl ((atoms s).take (i + 1)) ≤ 900 := Nat.le_trans (Nat.le_of_dvd hpos d1) hw
        have ew : whl ((atoms s).take (i + 1)) = Nat.lcm (whl ((atoms s).take i)) (one y) := by rw [tk, whl_snoc]
        have d0 : whl ((atoms s).take i) ∣ whl ((atoms s).take (i + 1)) := by rw [ew]; exact Nat.dvd_lcm_left _ _
        have p0 : 0 < whl ((atoms s).take i) := Nat.pos_of_dvd_of_pos d0 p1
        have l0 : whl ((atoms s).take i) ≤ 900 := Nat.le_trans (Nat.le_of_dvd p1 d0) l1
        have o1 : one y ≤ 900 := Nat.le_trans (Nat.le_of_dvd p1 (by rw [ew]; exact Nat.dvd_lcm_right _ _)) l1
        rw [ew]
        generalize whl ((atoms s).take i) = f at *
        cases y with
        | least w c' =>
          refine ⟨_, M1, _, M1, rfl, .inl ?_, some (enc (.least w c')), b, c, d, rfl, rfl⟩
          simp [enc, eq_s, ok_least, ok_rest, one]
        | rest w m r =>
          obtain ⟨fore, last, rfl, hl⟩ := snoc vy.1
          have hwl := wt_last ny.1
          have n1 : 1 ≤ m := ny.2.1
          have n2 : m ≤ 900 := ny.2.2
          have hone : one (.rest (fore ++ [last]) m r) = m.natAbs / Nat.gcd m.natAbs last.natAbs := by simp [one]
          have c1 := common_part (L := k + 1) (a := m) (b := last) (M := M1) (by omega) (by omega)
          have c2 := common_part (L := k + 1) (a := f) (b := (one (.rest (fore ++ [last]) m r) : Nat)) (M := M1) (by omega) (by omega)
          rw [Int.natAbs_natCast, Int.natAbs_natCast] at c2
          have pg1 : 0 < Nat.gcd m.natAbs last.natAbs := Nat.gcd_pos_of_pos_left _ (by omega)
          have lg1 : Nat.gcd m.natAbs last.natAbs ≤ m.natAbs := Nat.le_of_dvd (by omega) (Nat.gcd_dvd_left _ _)
          have ho : m / ((Nat.gcd m.natAbs last.natAbs : Nat) : Int) = (one (.rest (fore ++ [last]) m r) : Nat) := by
            rw [hone]
            obtain ⟨mm, rfl⟩ : ∃ k : Nat, m = k := ⟨m.toNat, by omega⟩
            simp
          generalize one (.rest (fore ++ [last]) m r) = o at *
          have pg2 : 0 < Nat.gcd f o := Nat.gcd_pos_of_pos_left _ (by omega)
          have lg2 : Nat.gcd f o ≤ f := Nat.le_of_dvd (by omega) (Nat.gcd_dvd_left _ _)
          have ed : ((f : Int) * o) / ((Nat.gcd f o : Nat) : Int) = (Nat.lcm f o : Nat) := by
            show _ = ((f * o / Nat.gcd f o : Nat) : Int)
            rw [Int.natCast_ediv, Int.natCast_mul]
          refine ⟨_, M1, _, M1, rfl, .inl ?_, some (enc (.rest (fore ++ [last]) m r)), some (.lst (il fore)), some (.int last), some (.int (o : Int)), rfl, rfl⟩
          have st : ∀ r Γ, mGStar 2 0 r (.tup (il (fore ++ [last]))) Γ M1 = r [.lst (il fore), .int last] Γ M1 := fun r Γ => star0 (v := fore) (l := last) (r := r) (Γ := Γ) (M := M1) (by omega)
          generalize Nat.gcd f o = g2 at c2 pg2 lg2 ed
          generalize Nat.lcm f o = lc at ed ⊢
          generalize Nat.gcd m.natAbs last.natAbs = g1 at c1 pg1 lg1 ho
          have hdv : fDiv (.int m) (.int (g1 : Int)) M1 = .ok (.int (o : Int)) M1 := by rw [div_i (by omega) (by omega), ho]
          have hdv2 : fDiv (.int ((f : Int) * o)) (.int (g2 : Int)) M1 = .ok (.int (lc : Int)) M1 := by rw [div_i (by omega) (by omega), ed]
          have hml : fMul (.int (f : Int)) (.int (o : Int)) M1 = .ok (.int ((f : Int) * o)) M1 := mul_l (by omega)
          simp [-e_gstar, enc, eq_s, ok_rest, st, c1, c2, hdv, hdv2, hml]
        | neg _ => exact iy.elim
        | con _ _ => exact iy.elim
        | dis _ _ => exact iy.elim
  subst hΓ hM
  rw [List.length_map, List.take_length] at e
  simp [B_wheel_of, ha, e]
end K83

namespace K83
open PySem DL
/-! ### what is put -/
abbrev putD (sl : List Int) (st pa : Int) : D := .obj "Put" ["slopes", "start", "parts"] [.tup (il sl), .int st, .int pa]
theorem p1 : putN "slopes" = putN "slopes" := rfl
theorem set_new {M : Sto} {C : Str} {ns : List Str} {ds : List D} {f : Str} {d : D} {Γ : DEnv} {Cs : List Str} (hC : Cs.contains C = true) (hn : ns.length < 1000) : setF Cs f (.ref M.length) d Γ (M ++ [.ins C ns ds]) = .nx Γ (M ++ [.ins C (putN f d ns ds).1 (putN f d ns ds).2]) := by
  unfold setF
  dsimp only
  rw [List.getElem?_append_right (Nat.le_refl _), Nat.sub_self]
  dsimp only [List.getElem?_cons_zero]
  rw [if_pos ⟨hC, hn⟩]
  congr 1
  rw [List.set_append_right _ _ (Nat.le_refl _), Nat.sub_self]
  rfl
theorem kn1 : ((Str.ofString "slopes" : Str) = Str.ofString "start") = False := by simp only [eq_iff_iff, iff_false]; decide +kernel
theorem kn2 : ((Str.ofString "slopes" : Str) = Str.ofString "parts") = False := by simp only [eq_iff_iff, iff_false]; decide +kernel
theorem kn3 : ((Str.ofString "start" : Str) = Str.ofString "parts") = False := by simp only [eq_iff_iff, iff_false]; decide +kernel
theorem trim_snoc {d : D} {M : Sto} {o p : MO} : (Res.ok d (M ++ [o])).trim (M ++ [p]).length = .ok d (M ++ [o]) := trim_len (by simp)
theorem put_init {L : Nat} {M : Sto} {sl st pa : D} (hL : 2 ≤ L) : S_Put_init L [.ref M.length, sl, st, pa] (M ++ [.ins "Put" [] []]) = .ok .non (M ++ [.ins "Put" ["slopes", "start", "parts"] [sl, st, pa]]) := by
  obtain ⟨k, rfl⟩ : ∃ k, L = k + 2 := ⟨L - 2, by omega⟩
  rw [S_Put_init_eq, def_ap]
  simp [B_Put_init, set_new, putN, kn1, kn2, kn3]
  exact trim_len (by simp)
theorem low_il {n : Nat} : ∀ w : List Int, lows n (il w) = true
  | [] => rfl
  | _ :: w => by rw [il_cons]; unfold lows; rw [low_il w]; rfl
theorem low_enc {n : Nat} : ∀ s : Sen, (enc s).low n = true
  | .least w c => by simp [enc, D.low, lows, low_il]
  | .rest w m r => by simp [enc, D.low, lows, low_il]
  | .neg a => by simp [enc, D.low, lows, low_enc a]
  | .con a b => by simp [enc, D.low, lows, low_enc a, low_enc b]
  | .dis a b => by simp [enc, D.low, lows, low_enc a, low_enc b]
theorem frz_put {M : Sto} {sl : List Int} {st pa : Int} (h : Cl M) : frz M.length (M ++ [.ins "Put" ["slopes", "start", "parts"] [.tup (il sl), .int st, .int pa]]) = .ok (putD sl st pa) M := by
  unfold frz
  rw [List.getElem?_append_right (Nat.le_refl _), Nat.sub_self]
  dsimp only [List.getElem?_cons_zero]
  rw [if_pos ⟨by simp, by simp [lows, D.low, low_il], by rw [List.take_left]; exact h⟩, List.take_left]
@[simp] theorem fld_sl {sl : List Int} {st pa : Int} {M : Sto} : fldGet ["Put"] "slopes" (putD sl st pa) M = .ok (.tup (il sl)) M := by rfl
@[simp] theorem fld_st {sl : List Int} {st pa : Int} {M : Sto} : fldGet ["Put"] "start" (putD sl st pa) M = .ok (.int st) M := by rfl
@[simp] theorem fld_pa {sl : List Int} {st pa : Int} {M : Sto} : fldGet ["Put"] "parts" (putD sl st pa) M = .ok (.int pa) M := by rfl
@[simp] theorem no_into {x y z : D} : (List.lookup (Str.ofString "into") ((["slopes", "start", "parts"] : List Str).zip [x, y, z])).isNone = true := by rfl
theorem no_m {m : Str} {x y z : D} (h1 : ¬ m = "slopes") (h2 : ¬ m = "start") (h3 : ¬ m = "parts") : (List.lookup m ((["slopes", "start", "parts"] : List Str).zip [x, y, z])) = none := by
  simp [List.lookup, beq_eq_false_iff_ne.mpr h1, beq_eq_false_iff_ne.mpr h2, beq_eq_false_iff_ne.mpr h3]
@[simp] theorem nm_weights_in_slopes : (Str.ofString "weights_in" = Str.ofString "slopes") = False := by simp only [eq_iff_iff, iff_false]; decide +kernel
@[simp] theorem nm_weights_in_start : (Str.ofString "weights_in" = Str.ofString "start") = False := by simp only [eq_iff_iff, iff_false]; decide +kernel
@[simp] theorem nm_weights_in_parts : (Str.ofString "weights_in" = Str.ofString "parts") = False := by simp only [eq_iff_iff, iff_false]; decide +kernel
@[simp] theorem nm_into_slopes : (Str.ofString "into" = Str.ofString "slopes") = False := by simp only [eq_iff_iff, iff_false]; decide +kernel
@[simp] theorem nm_into_start : (Str.ofString "into" = Str.ofString "start") = False := by simp only [eq_iff_iff, iff_false]; decide +kernel
@[simp] theorem nm_into_parts : (Str.ofString "into" = Str.ofString "parts") = False := by simp only [eq_iff_iff, iff_false]; decide +kernel
@[simp] theorem nm_is_number_slopes : (Str.ofString "is_number" = Str.ofString "slopes") = False := by simp only [eq_iff_iff, iff_false]; decide +kernel
@[simp] theorem nm_is_number_start : (Str.ofString "is_number" = Str.ofString "start") = False := by simp only [eq_iff_iff, iff_false]; decide +kernel
@[simp] theorem nm_is_number_parts : (Str.ofString "is_number" = Str.ofString "parts") = False := by simp only [eq_iff_iff, iff_false]; decide +kernel
/-- a sentence with a number put for its last one -/
def wIn (sl : List Int) (pa : Int) (w : List Int) : List Int := (w.dropLast.zip sl).map fun p => pa * p.1 + w.getLast?.getD 0 * p.2
def put (sl : List Int) (st pa : Int) : Sen → Sen
  | .least w c => .least (wIn sl pa w) (pa * c - w.getLast?.getD 0 * st)
  | .rest w m r => .rest (wIn sl pa w) (pa * m) ((pa * r - w.getLast?.getD 0 * st) % (pa * m))
  | .neg a => .neg (put sl st pa a)
  | .con a b => .con (put sl st pa a) (put sl st pa b)
  | .dis a b => .dis (put sl st pa a) (put sl st pa b)
theorem weights_in {n L : Nat} {v sl : List Int} {l st pa : Int} {M : Sto} (hL : 2 ≤ L) (hv : v.length = n) (hs : sl.length = n) (hl : -900 ≤ l ∧ l ≤ 900) (hp : 1 ≤ pa ∧ pa ≤ 900) (hn : n < 1000) :
    ∃ w, S_Put_weights_in L [putD sl st pa, .tup (il (v ++ [l]))] M = .ok (.tup (il w)) M ∧ w.length = n ∧ w = wIn sl pa (v ++ [l]) := by
  obtain ⟨k, rfl⟩ : ∃ k, L = k + 2 := ⟨L - 2, by omega⟩
  rw [S_Put_weights_in_eq, def_ap]
  have hz : zipS [.lst (il v), .tup (il sl)] M = .ok (pairs (il v) (il sl), kT) M := zipS_of rfl rfl (by simp [hv, hs])
  refine ⟨(v.zip sl).map fun p => pa * p.1 + l * p.2, ?_, by simp [hv, hs], by simp [wIn]⟩
  have st0 := star0 (v := v) (l := l) (r := mGCons (mGN 2) (mGCons (mGN 3) mGNil)) (Γ := [some (putD sl st pa), some (.tup (il (v ++ [l]))), none, none, none, none]) (M := M) (by omega)
  have hlc : lcL (mGSeq 2 (mGCons (mGN 4) (mGCons (mGN 5) mGNil))) mYes (mBin fAdd (mBin fMul (mFld ["Put"] "parts" (mVar 0)) (mVar 4)) (mBin fMul (mVar 3) (mVar 5))) kT [some (putD sl st pa), some (.tup (il (v ++ [l]))), some (.lst (il v)), some (.int l), none, none] (pairs (il v) (il sl)) M = .ok (il ((v.zip sl).map fun p => pa * p.1 + l * p.2)) M := by
    rw [pairs_il]
    rw [lc_map (r := fun p => D.int (pa * p.1 + l * p.2)) _ fun p hp => ⟨[some (putD sl st pa), some (.tup (il (v ++ [l]))), some (.lst (il v)), some (.int l), some (.int p.1), some (.int p.2)], by simp, by simp, by
      simp [mul_l, show -18446744073709551616 < pa ∧ pa < 18446744073709551616 from by omega, show -18446744073709551616 < l ∧ l < 18446744073709551616 from by omega]⟩]
    simp [il]
  simp only [B_Put_weights_in, e_seq, e_asg, e_var, List.map_cons, List.map_nil, List.length_cons, List.length_nil, List.replicate, List.cons_append, List.nil_append, List.getElem?_cons_succ, List.getElem?_cons_zero, toS_ok, st0]
  simp [hz, hlc]
theorem into {n : Nat} {sl : List Int} {st pa : Int} {M : Sto} (hs : sl.length = n) (hp : 1 ≤ pa ∧ pa ≤ 900) (hn : n < 1000) : ∀ (s : Sen) (L : Nat), dep s + 4 ≤ L → Val (n + 1) s → Nice s →
    ∃ s', S_Put_into L [putD sl st pa, enc s] M = .ok (enc s') M ∧ Val n s' ∧ dep s' = dep s ∧ s' = put sl st pa s
  | .least w c, L, hL, v, h => by
    obtain ⟨k, rfl⟩ : ∃ k, L = k + 2 := ⟨L - 2, by omega⟩
    obtain ⟨fore, last, rfl, hl⟩ := snoc v
    have hw := wt_last h
    obtain ⟨w', e, hw', hwe⟩ := weights_in (L := k + 1) (v := fore) (sl := sl) (l := last) (st := st) (pa := pa) (M := M) (by omega) hl hs hw hp hn
    rw [S_Put_into_eq, def_ap]
    refine ⟨.least w' (pa * c - last * st), ?_, hw', rfl, by rw [hwe]; simp [put]⟩
    simp [B_Put_into, enc, eq_s, ok_least, meth_obj, e, il_last, mul_l, show -18446744073709551616 < pa ∧ pa < 18446744073709551616 from by omega, show -18446744073709551616 < last ∧ last < 18446744073709551616 from by omega]
  | .rest w m r, L, hL, v, h => by
    obtain ⟨k, rfl⟩ : ∃ k, L = k + 2 := ⟨L - 2, by omega⟩
    obtain ⟨fore, last, rfl, hl⟩ := snoc v.1
    have hw := wt_last h.1
    obtain ⟨w', e, hw', hwe⟩ := weights_in (L := k + 1) (v := fore) (sl := sl) (l := last) (st := st) (pa := pa) (M := M) (by omega) hl hs hw hp hn
    rw [S_Put_into_eq, def_ap]
    have hm : 0 < pa * m := Int.mul_pos (by omega) v.2
    refine ⟨.rest w' (pa * m) ((pa * r - last * st) % (pa * m)), ?_, ⟨hw', hm⟩, rfl, by rw [hwe]; simp [put]⟩
    simp [B_Put_into, enc, eq_s, ok_least, ok_rest, meth_obj, e, il_last, mul_l, mod_i hm, show -18446744073709551616 < pa ∧ pa < 18446744073709551616 from by omega, show -18446744073709551616 < last ∧ last < 18446744073709551616 from by omega]
  | .neg a, L, hL, v, h => by
    obtain ⟨k, rfl⟩ : ∃ k, L = k + 2 := ⟨L - 2, by omega⟩
    obtain ⟨a', ea, va, da, qa⟩ := into (st := st) (pa := pa) (M := M) hs hp hn a (k + 1) (by unfold dep at hL; omega) v h
    rw [S_Put_into_eq, def_ap]
    refine ⟨.neg a', ?_, va, by unfold dep; rw [da], by rw [qa]; rfl⟩
    have hlc : ∀ d e', lcL (mGN 9) mYes (mMeth "Put" "into" 2 0 (S_Put_into (k + 1)) gd_Put_into_2 (mVar 0) (mCons (mVar 9) mNil) mNil) kT [some (putD sl st pa), some d, some e', some (.lst [enc a]), none, none, none, none, none, none] [enc a] M = .ok [enc a'] M := fun d e' => by
      rw [lc_turn (y := enc a') (M3 := M) (M2 := M) (M1 := M) (Γ1 := [some (putD sl st pa), some d, some e', some (.lst [enc a]), none, none, none, none, none, some (enc a)]) (by simp) (by simp) (by simp [meth_obj, ea])]
      simp
    simp [B_Put_into, enc, eq_s, ok_least, ok_rest, ok_not, hlc]
  | .con a b, L, hL, v, h => by
    obtain ⟨k, rfl⟩ : ∃ k, L = k + 2 := ⟨L - 2, by omega⟩
    obtain ⟨a', ea, va, da, qa⟩ := into (st := st) (pa := pa) (M := M) hs hp hn a (k + 1) (by unfold dep at hL; omega) v.1 h.1
    obtain ⟨b', eb, vb, db, qb⟩ := into (st := st) (pa := pa) (M := M) hs hp hn b (k + 1) (by unfold dep at hL; omega) v.2 h.2
    rw [S_Put_into_eq, def_ap]
    refine ⟨.con a' b', ?_, ⟨va, vb⟩, by unfold dep; rw [da, db], by rw [qa, qb]; rfl⟩
    have hlc : ∀ d e', lcL (mGN 9) mYes (mMeth "Put" "into" 2 0 (S_Put_into (k + 1)) gd_Put_into_2 (mVar 0) (mCons (mVar 9) mNil) mNil) kT [some (putD sl st pa), some d, some e', some (.lst [enc a, enc b]), none, none, none, none, none, none] [enc a, enc b] M = .ok [enc a', enc b'] M := fun d e' => by
      rw [lc_turn (y := enc a') (M3 := M) (M2 := M) (M1 := M) (Γ1 := [some (putD sl st pa), some d, some e', some (.lst [enc a, enc b]), none, none, none, none, none, some (enc a)]) (by simp) (by simp) (by simp [meth_obj, ea]),
        lc_turn (y := enc b') (M3 := M) (M2 := M) (M1 := M) (Γ1 := [some (putD sl st pa), some d, some e', some (.lst [enc a, enc b]), none, none, none, none, none, some (enc b)]) (by simp) (by simp) (by simp [meth_obj, eb])]
      simp
    simp [B_Put_into, enc, eq_s, ok_least, ok_rest, ok_and, hlc]
  | .dis a b, L, hL, v, h => by
    obtain ⟨k, rfl⟩ : ∃ k, L = k + 2 := ⟨L - 2, by omega⟩
    obtain ⟨a', ea, va, da, qa⟩ := into (st := st) (pa := pa) (M := M) hs hp hn a (k + 1) (by unfold dep at hL; omega) v.1 h.1
    obtain ⟨b', eb, vb, db, qb⟩ := into (st := st) (pa := pa) (M := M) hs hp hn b (k + 1) (by unfold dep at hL; omega) v.2 h.2
    rw [S_Put_into_eq, def_ap]
    refine ⟨.dis a' b', ?_, ⟨va, vb⟩, by unfold dep; rw [da, db], by rw [qa, qb]; rfl⟩
    have hlc : ∀ d e', lcL (mGN 9) mYes (mMeth "Put" "into" 2 0 (S_Put_into (k + 1)) gd_Put_into_2 (mVar 0) (mCons (mVar 9) mNil) mNil) kT [some (putD sl st pa), some d, some e', some (.lst [enc a, enc b]), none, none, none, none, none, none] [enc a, enc b] M = .ok [enc a', enc b'] M := fun d e' => by
      rw [lc_turn (y := enc a') (M3 := M) (M2 := M) (M1 := M) (Γ1 := [some (putD sl st pa), some d, some e', some (.lst [enc a, enc b]), none, none, none, none, none, some (enc a)]) (by simp) (by simp) (by simp [meth_obj, ea]),
        lc_turn (y := enc b') (M3 := M) (M2 := M) (M1 := M) (Γ1 := [some (putD sl st pa), some d, some e', some (.lst [enc a, enc b]), none, none, none, none, none, some (enc b)]) (by simp) (by simp) (by simp [meth_obj, eb])]
      simp
    simp [B_Put_into, enc, eq_s, ok_least, ok_rest, ok_or, hlc]
theorem is_number {L : Nat} {sl : List Int} {st pa : Int} {M : Sto} (hL : 2 ≤ L) : S_Put_is_number L [putD sl st pa] M = .ok (enc (.least sl (-st))) M := by
  obtain ⟨k, rfl⟩ : ∃ k, L = k + 2 := ⟨L - 2, by omega⟩
  rw [S_Put_is_number_eq, def_ap]
  simp [B_Put_is_number, enc]
end K83

namespace K83
open PySem DL
/-- what is put at a place, and when -/
structure PI where
  sl : List Int
  st : Int
  pa : Int
  w : Sen
def PI.d (p : PI) : D := .tup [putD p.sl p.st p.pa, enc p.w]
def PI.ok (n : Nat) (p : PI) : Prop := p.sl.length = n ∧ (1 ≤ p.pa ∧ p.pa ≤ 900) ∧ Val n p.w ∧ dep p.w = 0
def pit (fore : List Int) (last c pa r i : Int) (w : Sen) : PI := if 0 < last then ⟨fore.map fun a => -a, c + r + pa * i, pa, w⟩ else ⟨fore, pa * (i + 1) - c - r, pa, w⟩
theorem PI.low {m : Nat} {p : PI} : p.d.low m = true := by
  simp [PI.d, D.low, lows, low_il, low_enc]
theorem abs_pos {l : Int} (h : -900 ≤ l ∧ l ≤ 900) (h0 : l ≠ 0) : (1 : Int) ≤ (l.natAbs : Int) ∧ (l.natAbs : Int) ≤ 900 := by omega
abbrev PB (S : Fn) : MS := (mSeq (mIfS (mCmpT fGt (mVar 3) (mC (.int 0))) (mAsg (mMake "Put" 3 1 S gd_Put_init_3_by (mCons (mB fTuple (mCons (mLc (mIter (mVar 2)) (mGN 10) [10] (mYes) (mUn fNeg (mVar 10))) (mNil))) (mCons (mBin fAdd (mBin fAdd (mBin fIx (mVar 0) (mC (.int 2))) (mVar 6)) (mBin fMul (mVar 4) (mVar 8))) (mNil))) (mCons (mVar 4) (mNil))) (mGN 9)) (mAsg (mMake "Put" 3 1 S gd_Put_init_3_by (mCons (mB fTuple (mCons (mVar 2) (mNil))) (mCons (mBin fSub (mBin fSub (mBin fMul (mVar 4) (mBin fAdd (mVar 8) (mC (.int 1)))) (mBin fIx (mVar 0) (mC (.int 2)))) (mVar 6)) (mNil))) (mCons (mVar 4) (mNil))) (mGN 9))) <| mExpr (mMt preL fAppend (mVar 5) (mCons (mTup (mCons (mVar 9) (mCons (mVar 7) (mNil)))) (mNil))))
/-- the names in puts_at -/
abbrev PG (fore : List Int) (last c f by_ : Int) (m : Nat) (a b x y z : Option D) : DEnv := [some (enc (.least (fore ++ [last]) c)), some (.int f), some (.lst (il fore)), some (.int last), some (.int by_), some (.ref m), a, b, x, y, z]
theorem put_turn {n k : Nat} {fore : List Int} {last c f by_ r1 : Int} {when : Sen} {M : Sto} {ps : List PI} {i : Int} {y z : Option D} (hk : 2 ≤ k) (hl : fore.length = n) (by1 : 1 ≤ by_ ∧ by_ ≤ 900) (hM : Cl M) (hlen : ps.length < 16777216) :
    ∃ y' z', PB (S_Put_init k) (PG fore last c f by_ M.length (some (.int r1)) (some (enc when)) (some (.int i)) y z) (M ++ [MO.lst (ps.map PI.d)]) = .nx (PG fore last c f by_ M.length (some (.int r1)) (some (enc when)) (some (.int i)) y' z') (M ++ [MO.lst ((ps ++ [pit fore last c by_ r1 i when]).map PI.d)]) := by
  have hps : (ps ++ [pit fore last c by_ r1 i when]).map PI.d = ps.map PI.d ++ [(pit fore last c by_ r1 i when).d] := by simp
  rw [hps]
  have hlen : (ps.map PI.d).length < 16777216 := by simpa using hlen
  have hit : ∀ d ∈ ps.map PI.d, ∃ p : PI, d = p.d := fun d hd => by
    obtain ⟨p, _, rfl⟩ := List.mem_map.mp hd
    exact ⟨p, rfl⟩
  generalize ps.map PI.d = its at *
  have hlow : (MO.lst its).low (M.length + 1) = true := lows_all fun d hd => by obtain ⟨p, rfl⟩ := hit d hd; exact PI.low
  have hCl : Cl (M ++ [MO.lst its]) := hM.app hlow
  have hneg : ∀ Γ0 : DEnv, Γ0.length = 11 → lcL (mGN 10) mYes (mUn fNeg (mVar 10)) kT Γ0 (il fore) (M ++ [MO.lst its]) = .ok (il (fore.map fun a => -a)) (M ++ [MO.lst its]) := fun Γ0 hΓ0 => by
    have := lc_map (g := mGN 10) (t := mYes) (e := mUn fNeg (mVar 10)) (Γ := Γ0) (M := M ++ [MO.lst its]) (c := D.int) (r := fun a => D.int (-a)) fore fun a ha => ⟨Γ0.set 10 (some (.int a)), by simp, by simp, by simp [hΓ0]⟩
    unfold il
    rw [this]
    simp
  have hput : ∀ (sl : List Int) (st : Int), S_Put_init k [.ref (M ++ [MO.lst its]).length, .tup (il sl), .int st, .int by_] ((M ++ [MO.lst its]) ++ [MO.ins "Put" [] []]) = .ok .non ((M ++ [MO.lst its]) ++ [MO.ins "Put" ["slopes", "start", "parts"] [.tup (il sl), .int st, .int by_]]) := fun sl st => put_init (by omega)
  have hfrz : ∀ (sl : List Int) (st : Int), frz (M ++ [MO.lst its]).length ((M ++ [MO.lst its]) ++ [MO.ins "Put" ["slopes", "start", "parts"] [.tup (il sl), .int st, .int by_]]) = .ok (putD sl st by_) (M ++ [MO.lst its]) := fun sl st => frz_put hCl
  have hadd : ∀ d, fAppend (.ref M.length) [d] (M ++ [MO.lst its]) = .ok .non (M ++ [MO.lst (its ++ [d])]) := fun d => append_app (by omega)
  generalize hN : M ++ [MO.lst its] = N at *
  have hpre : preL N (.ref M.length) = true := by rw [← hN]; exact preL_app
  by_cases hp : 0 < last
  · refine ⟨some (putD (fore.map fun a => -a) (c + r1 + by_ * i) by_), z, ?_⟩
    have hpit : (pit fore last c by_ r1 i when).d = .tup [putD (fore.map fun a => -a) (c + r1 + by_ * i) by_, enc when] := by simp [pit, hp, PI.d]
    rw [hpit]
    have hp2 : decide (0 < last) = true := decide_eq_true hp
    simp [enc, hp2, hneg, hput, hfrz, mul_l, show -18446744073709551616 < by_ ∧ by_ < 18446744073709551616 from by omega, hpre, hadd]
  · refine ⟨some (putD fore (by_ * (i + 1) - c - r1) by_), z, ?_⟩
    have hpit : (pit fore last c by_ r1 i when).d = .tup [putD fore (by_ * (i + 1) - c - r1) by_, enc when] := by simp [pit, hp, PI.d]
    rw [hpit]
    have hp2 : decide (0 < last) = false := decide_eq_false hp
    simp [enc, hp2, hput, hfrz, mul_l, show -18446744073709551616 < by_ ∧ by_ < 18446744073709551616 from by omega, hpre, hadd]
end K83

namespace K83
open PySem DL
theorem flat_len {α β : Type} {r : α → List β} {n : Nat} : ∀ (xs : List α), (∀ x ∈ xs, (r x).length = n) → (xs.flatMap r).length = xs.length * n
  | [], _ => by simp
  | x :: xs, h => by
    rw [List.flatMap_cons, List.length_append, h x (by simp), flat_len xs fun y hy => h y (by simp [hy]), List.length_cons, Nat.succ_mul]
    omega
def pits (fore : List Int) (last c b : Int) (f : Nat) (r : Int) (w : Sen) : List PI := (List.range f).map fun i : Nat => pit fore last c b r (0 + (i : Int)) w
def putsB (fore : List Int) (last c : Int) (f : Nat) (b : Nat) (m : Nat) : List PI := (List.range m).flatMap fun i : Nat => pits fore last c b f (0 + (i : Int)) (.rest fore b ((c + (0 + (i : Int))) % b))
/-- what puts_at tells -/
def putsL (fore : List Int) (last c : Int) (f : Nat) : List PI := putsB fore last c f last.natAbs last.natAbs
theorem putsB_len {fore : List Int} {last c : Int} {f b m : Nat} : (putsB fore last c f b m).length = m * f := by
  unfold putsB
  rw [flat_len (n := f) _ fun x _ => by simp [pits]]
  simp
theorem put_inner {n k f : Nat} {fore : List Int} {last c b r1 : Int} {when : Sen} {M : Sto} {ps : List PI} {x y z : Option D} (hk : 2 ≤ k) (hl : fore.length = n) (by1 : 1 ≤ b ∧ b ≤ 900) (hM : Cl M) (hf : f ≤ 900) (hlen : ps.length ≤ 1000000) :
    ∃ x' y' z', forL (mGN 8) (PB (S_Put_init k)) kT (DL.upTo 0 (f : Int)) (PG fore last c f b M.length (some (.int r1)) (some (enc when)) x y z) (M ++ [MO.lst (ps.map PI.d)]) = .nx (PG fore last c f b M.length (some (.int r1)) (some (enc when)) x' y' z') (M ++ [MO.lst ((ps ++ pits fore last c b f r1 when).map PI.d)]) := by
  obtain ⟨Γ', M', e, x', y', z', rfl, rfl⟩ := for_inv (g := mGN 8) (M := M ++ [MO.lst (ps.map PI.d)]) (ds := DL.upTo 0 (f : Int)) (Γ := PG fore last c f b M.length (some (.int r1)) (some (enc when)) x y z) (body := PB (S_Put_init k))
    (I := fun i Γ M' => ∃ (x y z : Option D), Γ = PG fore last c f b M.length (some (.int r1)) (some (enc when)) x y z ∧ M' = M ++ [MO.lst ((ps ++ pits fore last c b i r1 when).map PI.d)])
    ⟨x, y, z, rfl, by simp [pits]⟩ fun i d Γ M1 hd2 ⟨x, y, z, hΓ, hM1⟩ => by
      obtain ⟨rfl, hi⟩ := upTo_get hd2
      subst hΓ hM1
      obtain ⟨y', z', e⟩ := put_turn (n := n) (k := k) (fore := fore) (last := last) (c := c) (f := f) (by_ := b) (r1 := r1) (when := when) (M := M) (ps := ps ++ pits fore last c b i r1 when) (i := 0 + (i : Int)) (y := y) (z := z) hk hl by1 hM (by simp [pits]; omega)
      refine ⟨_, _, _, _, rfl, .inl e, some (.int (0 + (i : Int))), y', z', rfl, ?_⟩
      simp [pits, List.range_succ]
  exact ⟨x', y', z', by rw [e, upTo_len]; simp⟩
theorem puts_at {n L f : Nat} {fore : List Int} {last c : Int} {M : Sto} (hL : 4 ≤ L) (hl : fore.length = n) (hw : -900 ≤ last ∧ last ≤ 900) (h0 : last ≠ 0) (hf : f ≤ 900) (hn : n < 1000) (hM : Cl M) :
    S_puts_at L [enc (.least (fore ++ [last]) c), .int f] M = .ok (.lst ((putsL fore last c f).map PI.d)) M := by
  obtain ⟨k, rfl⟩ : ∃ k, L = k + 2 := ⟨L - 2, by omega⟩
  rw [S_puts_at_eq, def_ap]
  obtain ⟨by1, by3⟩ := abs_pos hw h0
  have st0 := star0 (v := fore) (l := last) (r := mGCons (mGN 2) (mGCons (mGN 3) mGNil)) (Γ := [some (enc (.least (fore ++ [last]) c)), some (.int f), none, none, none, none, none, none, none, none, none]) (M := M) (by omega)
  unfold putsL
  generalize hby : last.natAbs = b at by1 by3
  obtain ⟨Γ', M', e, v', w', x', y', z', rfl, rfl⟩ := for_inv (g := mGN 6) (M := M ++ [MO.lst []]) (ds := DL.upTo 0 (b : Int)) (Γ := PG fore last c f b M.length none none none none none)
    (body := (mSeq (mAsg (mTup (mCons (mC (.str "rest")) (mCons (mB fTuple (mCons (mVar 2) (mNil))) (mCons (mVar 4) (mCons (mBin fMod (mBin fAdd (mBin fIx (mVar 0) (mC (.int 2))) (mVar 6)) (mVar 4)) (mNil)))))) (mGN 7)) <| mFor (mRng1 (mCons (mVar 1) (mNil))) (mGN 8) (PB (S_Put_init k))))
    (I := fun i Γ M' => ∃ (v w x y z : Option D), Γ = PG fore last c f b M.length v w x y z ∧ M' = M ++ [MO.lst ((putsB fore last c f b i).map PI.d)])
    ⟨none, none, none, none, none, rfl, by simp [putsB]⟩ fun i d Γ M1 hd2 ⟨v, w, x, y, z, hΓ, hM1⟩ => by
      obtain ⟨rfl, hi⟩ := upTo_get hd2
      subst hΓ hM1
      have hle : i * f ≤ 900 * 900 := Nat.mul_le_mul (by omega) hf
      obtain ⟨x', y', z', e⟩ := put_inner (n := n) (k := k) (fore := fore) (last := last) (c := c) (f := f) (b := b) (r1 := 0 + (i : Int)) (when := .rest fore b ((c + (0 + (i : Int))) % b)) (M := M) (ps := putsB fore last c f b i) (x := x) (y := y) (z := z) (by omega) hl ⟨by1, by3⟩ hM hf (by rw [putsB_len]; omega)
      have hps : putsB fore last c f b (i + 1) = putsB fore last c f b i ++ pits fore last c b f (0 + (i : Int)) (.rest fore b ((c + (0 + (i : Int))) % b)) := by simp [putsB, List.range_succ]
      refine ⟨_, _, _, _, rfl, .inl ?_, some (.int (0 + (i : Int))), some (enc (.rest fore b ((c + (0 + (i : Int))) % b))), x', y', z', rfl, by rw [hps]⟩
      have hb0 : 0 < (b : Int) := by omega
      have hr : (f : Int) ≤ 16777216 ∧ -4611686018427387904 ≤ (f : Int) := by omega
      generalize (putsB fore last c f b i ++ pits fore last c b f (0 + (i : Int)) (.rest fore b ((c + (0 + (i : Int))) % b))).map PI.d = A at e ⊢
      generalize (putsB fore last c f b i).map PI.d = B at e ⊢
      simp [enc] at e
      simp [enc, mod_i hb0, hr]
      exact e
  have hr : (b : Int) ≤ 16777216 ∧ -4611686018427387904 ≤ (b : Int) := by omega
  rw [upTo_len, show ((b : Int) - 0).toNat = b by omega] at e
  have hlow : (D.lst ((putsB fore last c f b b).map PI.d)).low M.length = true := by
    unfold D.low
    exact lows_all fun d hd => by obtain ⟨p, _, rfl⟩ := List.mem_map.mp hd; exact PI.low
  generalize (putsB fore last c f b b).map PI.d = its' at *
  have hby' : (last.natAbs : Int) = b := by omega
  simp [enc, PG] at st0 e
  simp [B_puts_at, enc, st0, hby', hby, hr, e, freeze_app]
  exact trim_cl hlow hM
end K83

namespace K83
open PySem DL
/-- a list that may be one of the store's -/
structure LsD (M : Sto) (d : D) (ds : List D) : Prop where
  len : fLen [d] M = .ok (.int ds.length) M
  sl : ∀ lo hi, fSl d lo hi M = .ok (.lst (cutD ds lo hi)) M
  st : ∀ lo k, fStep lo k d M = .ok (.lst (stepD lo k ds)) M
  ix : ∀ i, fIx d (.int i) M = optR (L2.atI ds i) M
theorem LsD.lst {M : Sto} {ds : List D} : LsD M (.lst ds) ds := ⟨len_lst, fun _ _ => rfl, fun _ _ => rfl, fun _ => rfl⟩
theorem LsD.ref {M : Sto} {n : Nat} {ds : List D} (h : M[n]? = some (MO.lst ds)) : LsD M (.ref n) ds := ⟨len_ref h, fun _ _ => sl_ref h, fun _ _ => step_ref h, fun _ => ix_ref h⟩
theorem stepD_map {α β : Type} (f : α → β) {lo st : Nat} (xs : List α) : stepD lo st (xs.map f) = (stepD lo st xs).map f := by
  unfold stepD
  rw [List.map_filterMap, List.length_map]
  congr 1
  funext i
  simp
theorem stepD_mem {α : Type} {lo st : Nat} {xs : List α} {x : α} (h : x ∈ stepD lo st xs) : x ∈ xs := by
  unfold stepD at h
  obtain ⟨i, _, e⟩ := List.mem_filterMap.mp h
  exact List.mem_of_getElem? e
theorem step1_len {α : Type} (xs : List α) : (stepD 1 2 xs).length ≤ xs.length / 2 := by
  unfold stepD
  refine Nat.le_trans (List.length_filterMap_le _ _) ?_
  unfold sliceRange
  rw [List.length_map, List.length_range, if_pos (by decide)]
  split
  · omega
  · simp
theorem step_ne {α : Type} {lo : Nat} {xs : List α} (h : lo < xs.length) : stepD lo 2 xs ≠ [] := by
  unfold stepD sliceRange
  rw [if_pos (by decide), if_pos (by omega)]
  intro e
  rw [List.filterMap_eq_nil_iff] at e
  have hm : min (lo : Int) (xs.length : Int) = lo := by omega
  have := e lo (by
    rw [hm]
    refine List.mem_map.mpr ⟨0, List.mem_range.mpr ?_, by simp⟩
    omega)
  rw [List.getElem?_eq_none_iff] at this
  omega
/-- one step of any_of -/
def half (ss : List Sen) : List Sen := ((stepD 0 2 ss).zip (stepD 1 2 ss)).map (fun p => Sen.dis p.1 p.2) ++ ss.drop (ss.length / 2 * 2)
theorem half_len {ss : List Sen} {j : Nat} (h : ss.length ≤ 2 ^ (j + 1)) : (half ss).length ≤ 2 ^ j := by
  have h1 := step1_len ss
  rw [Nat.pow_succ] at h
  unfold half
  simp
  omega
theorem half_ne {ss : List Sen} (h : 1 < ss.length) : half ss ≠ [] := by
  intro e
  unfold half at e
  rw [List.append_eq_nil_iff, List.map_eq_nil_iff, List.zip_eq_nil_iff] at e
  rcases e.1 with e | e
  · exact step_ne (by omega) e
  · exact step_ne (by omega) e
theorem half_all {n d : Nat} {ss : List Sen} (h : ∀ s ∈ ss, Val n s ∧ dep s ≤ d) : ∀ s ∈ half ss, Val n s ∧ dep s ≤ d + 1 := by
  intro s hs
  unfold half at hs
  rcases List.mem_append.mp hs with hs | hs
  · obtain ⟨p, hp, rfl⟩ := List.mem_map.mp hs
    have h1 := h p.1 (stepD_mem (List.of_mem_zip hp).1)
    have h2 := h p.2 (stepD_mem (List.of_mem_zip hp).2)
    exact ⟨⟨h1.1, h2.1⟩, by unfold dep; omega⟩
  · have := h s (List.mem_of_mem_drop hs)
    exact ⟨this.1, by omega⟩
/-- halved again and again -/
def halves : Nat → List Sen → List Sen
  | 0, ss => ss
  | j + 1, ss => if 1 < ss.length then halves j (half ss) else ss
theorem halves_one {s : Sen} : ∀ j, halves j [s] = [s]
  | 0 => rfl
  | j + 1 => by unfold halves; rw [if_neg (by simp)]
theorem pairs_enc (a b : List Sen) : pairs (a.map enc) (b.map enc) = (a.zip b).map fun p => D.tup [enc p.1, enc p.2] := by
  unfold pairs
  rw [List.zipWith_map, List.zip, List.map_zipWith]
theorem pow_le_line {j : Nat} (h : j ≤ 24) : 2 ^ j ≤ 16777216 := by
  have h1 : 2 ^ j ≤ 2 ^ 24 := Nat.pow_le_pow_right (Nat.succ_pos 1) h
  have h2 : (2 : Nat) ^ 24 = 16777216 := by rfl
  rw [h2] at h1
  exact h1
theorem any_wh {n J : Nat} {M : Sto} {d : D} {ss : List Sen} {D0 : Nat} (hd : LsD M d (ss.map enc)) (hne : ss ≠ []) (hl : ss.length ≤ 2 ^ J) (hJ : J ≤ 20) (ha : ∀ s ∈ ss, Val n s ∧ dep s ≤ D0) :
    ∃ Γ' M', whL (mCmpT fGt (mB fLen (mCons (mVar 0) (mNil))) (mC (.int 1))) (mSeq (mAsg (mSl (mVar 0) (mPart (mBin fMul (mBin fDiv (mB fLen (mCons (mVar 0) (mNil))) (mC (.int 2))) (mC (.int 2)))) (mNoPart)) (mGN 1)) <| mAsg (mBin fAdd (mLc (mZip (mCons (mStep 0 2 (mVar 0)) (mCons (mStep 1 2 (mVar 0)) (mNil)))) (mGSeq 2 (mGCons (mGN 2) (mGCons (mGN 3) (mGNil)))) [2, 3] (mYes) (mTup (mCons (mC (.str "or")) (mCons (mVar 2) (mCons (mVar 3) (mNil)))))) (mVar 1)) (mGN 0)) fuel [some d, none, none, none] M = .nx Γ' M' ∧
      M' = M ∧ ∃ d' x s, Γ' = [some d', x, none, none] ∧ LsD M d' [enc s] ∧ Val n s ∧ dep s ≤ D0 + J ∧ halves J ss = [s] := by
  refine wh_run (I := fun j Γ M' => M' = M ∧ j ≤ J ∧ ∃ d x ss', halves J ss = halves j ss' ∧ Γ = [some d, x, none, none] ∧ LsD M d (ss'.map enc) ∧ ss' ≠ [] ∧ ss'.length ≤ 2 ^ j ∧ ∀ s ∈ ss', Val n s ∧ dep s ≤ D0 + (J - j)) ?_ fuel J _ M (by unfold fuel; omega) ⟨rfl, Nat.le_refl _, d, none, ss, rfl, rfl, hd, hne, hl, fun s hs => ⟨(ha s hs).1, by have := (ha s hs).2; omega⟩⟩
  generalize halves J ss = H0
  clear hd hne hl ha ss
  rintro j Γ M' ⟨rfl, hj, d, x, ss, hH, rfl, hd, hne, hl, ha⟩
  by_cases h1 : 1 < ss.length
  · right
    cases j with
    | zero => simp at hl; omega
    | succ j =>
      have hlen : ss.length ≤ 16777216 := Nat.le_trans hl (pow_le_line (by omega))
      have hz : zipN [.lst (stepD 0 2 (ss.map enc)), .lst (stepD 1 2 (ss.map enc))] M' = .ok (pairs (stepD 0 2 (ss.map enc)) (stepD 1 2 (ss.map enc)), kT) M' := zipN_of rfl rfl
      have hlc : lcL (mGSeq 2 (mGCons (mGN 2) (mGCons (mGN 3) (mGNil)))) mYes (mTup (mCons (mC (.str "or")) (mCons (mVar 2) (mCons (mVar 3) (mNil))))) kT [some d, some (.lst ((ss.map enc).drop (ss.length / 2 * 2))), none, none] (pairs (stepD 0 2 (ss.map enc)) (stepD 1 2 (ss.map enc))) M' =
          .ok (((stepD 0 2 ss).zip (stepD 1 2 ss)).map (fun p => enc (Sen.dis p.1 p.2))) M' := by
        rw [stepD_map, stepD_map, pairs_enc]
        exact lc_map _ fun p hp => ⟨[some d, some (.lst ((ss.map enc).drop (ss.length / 2 * 2))), some (enc p.1), some (enc p.2)], by simp, by simp, by simp [enc]⟩
      have hsum : ((stepD 0 2 ss).zip (stepD 1 2 ss)).length + (ss.length - ss.length / 2 * 2) ≤ 16777216 := by
        have := step1_len ss
        simp
        omega
      have hsl : cutD (ss.map enc) (some ((ss.length : Int) / 2 * 2)) none = (ss.map enc).drop (ss.length / 2 * 2) := by
        have := cut_from (ds := ss.map enc) (k := ss.length / 2 * 2)
        simpa using this
      refine ⟨j, M', [some (.lst ((half ss).map enc)), some (.lst ((ss.map enc).drop (ss.length / 2 * 2))), none, none], M', Nat.lt_succ_self _, ?_, .inl ?_, rfl, by omega, _, _, half ss, by rw [hH]; conv => (lhs; unfold halves); rw [if_pos h1], rfl, .lst, half_ne h1, half_len hl, fun s hs => ?_⟩
      · simp [hd.len, show (1 : Int) < (ss.length : Int) from by omega]
      · have hdv : fDiv (.int (ss.length : Int)) (.int 2) M' = .ok (.int ((ss.length : Int) / 2)) M' := div_i (by omega) (by omega)
        have hml : fMul (.int ((ss.length : Int) / 2)) (.int 2) M' = .ok (.int ((ss.length : Int) / 2 * 2)) M' := mul_r (by omega)
        have hsum2 : (((stepD 0 2 ss).zip (stepD 1 2 ss)).map (fun p => enc (Sen.dis p.1 p.2))).length + ((ss.map enc).drop (ss.length / 2 * 2)).length ≤ 16777216 := by
          rw [List.length_map, List.length_drop, List.length_map]
          exact hsum
        have hh : ((stepD 0 2 ss).zip (stepD 1 2 ss)).map (fun p => enc (Sen.dis p.1 p.2)) ++ (ss.map enc).drop (ss.length / 2 * 2) = (half ss).map enc := by
          unfold half
          rw [List.map_append, List.map_map, List.map_drop]
          rfl
        have hlen2 : fLen [d] M' = .ok (.int (ss.length : Int)) M' := by rw [hd.len, List.length_map]
        have hadd := add_fit (M := M') hsum2
        rw [hh] at hadd
        simp only [e_seq, e_asg, e_sl, e_var, List.getElem?_cons_zero, Res.bind_ok, e_part, e_bin, e_B, e_cons, e_nil, hlen2, e_c, hdv, hml, e_partOf, hsl, e_noPart, hd.sl, toS_ok, toSG_ok, e_gn, rs_nx, List.set_cons_succ, List.set_cons_zero, e_lc, e_zip, e_step, hd.st, hz, dw_cons, dw_nil, hlc, List.getElem?_cons_succ, hadd, toS_ok]
      · have := half_all ha s hs
        exact ⟨this.1, by omega⟩
  · left
    have h2 : ss.length = 1 := by
      have : ss.length ≠ 0 := fun e => hne (List.eq_nil_of_length_eq_zero e)
      omega
    obtain ⟨s, rfl⟩ := List.length_eq_one_iff.mp h2
    have := ha s (by simp)
    refine ⟨M', ?_, rfl, d, x, s, rfl, hd, this.1, by omega, by rw [hH, halves_one]⟩
    simp [hd.len]
theorem any_of {n J L : Nat} {M : Sto} {d : D} {ss : List Sen} {D0 : Nat} (hL : 2 ≤ L) (hd : LsD M d (ss.map enc)) (hne : ss ≠ []) (hl : ss.length ≤ 2 ^ J) (hJ : J ≤ 20) (ha : ∀ s ∈ ss, Val n s ∧ dep s ≤ D0) :
    ∃ s, S_any_of L [d] M = .ok (enc s) M ∧ Val n s ∧ dep s ≤ D0 + J ∧ halves J ss = [s] := by
  obtain ⟨k, rfl⟩ : ∃ k, L = k + 2 := ⟨L - 2, by omega⟩
  rw [S_any_of_eq, def_ap]
  obtain ⟨Γ', M', e, rfl, d', x, s, rfl, h1, h2, h3, h4⟩ := any_wh hd hne hl hJ ha
  refine ⟨s, ?_, h2, h3, h4⟩
  simp only [B_any_of, e_seq, e_while, List.map_cons, List.map_nil, List.length_cons, List.length_nil, List.replicate, List.cons_append, List.nil_append]
  rw [e]
  simp [h1.ix]
end K83

namespace K83
open PySem DL
theorem fm_get {α : Type} (g : Nat → Option α) : ∀ n, (∀ k < n, (g k).isSome) → ((List.range n).filterMap g).length = n ∧ ∀ i < n, ((List.range n).filterMap g)[i]? = g i
  | 0, _ => ⟨rfl, fun i hi => by omega⟩
  | n + 1, h => by
    obtain ⟨h1, h2⟩ := fm_get g n fun k hk => h k (by omega)
    obtain ⟨x, hx⟩ := Option.isSome_iff_exists.mp (h n (by omega))
    rw [List.range_succ, List.filterMap_append]
    have e : List.filterMap g [n] = [x] := by simp [hx]
    rw [e]
    refine ⟨by simp [h1], fun i hi => ?_⟩
    by_cases hin : i < n
    · rw [List.getElem?_append_left (by omega)]; exact h2 i hin
    · have : i = n := by omega
      subst this
      rw [List.getElem?_append_right (by omega), h1]
      simp [hx]
theorem step_get {α : Type} {lo : Nat} {xs : List α} (h : lo ≤ xs.length) : (stepD lo 2 xs).length = (xs.length - lo + 1) / 2 ∧ ∀ i < (xs.length - lo + 1) / 2, (stepD lo 2 xs)[i]? = xs[lo + 2 * i]? := by
  have e : stepD lo 2 xs = (List.range ((xs.length - lo + 1) / 2)).filterMap fun k => xs[lo + 2 * k]? := by
    unfold stepD sliceRange
    have hm : min (lo : Int) (xs.length : Int) = lo := by omega
    rw [if_pos (by decide), hm]
    have hc : (if (lo : Int) < (xs.length : Int) then ((xs.length : Int) - lo + (2 : Nat) - 1) / (2 : Nat) else 0).toNat = (xs.length - lo + 1) / 2 := by
      split <;> omega
    dsimp only
    rw [hc, List.filterMap_map]
    congr 1
  rw [e]
  exact fm_get _ _ fun k hk => by
    rw [List.getElem?_eq_getElem (by omega)]
    rfl
end K83

namespace K83
open PySem DL
theorem encs_low {m : Nat} {ss : List Sen} : lows m (ss.map enc) = true := lows_all fun d hd => by
  obtain ⟨s, _, rfl⟩ := List.mem_map.mp hd
  exact low_enc s
/-- one told part -/
def told1 (s : Sen) (p : PI) : Sen := .con p.w (.con (.least p.sl (-p.st)) (put p.sl p.st p.pa s))
abbrev SG (s : Sen) (f : Int) (n m : Nat) (a b c d : Option D) : DEnv := [some (enc s), some (.int f), some (.tup (il (List.replicate n 0))), some (.ref m), a, b, c, d]
abbrev SB (f_into f_num : Fn) : MS := mExpr (mMt preL fAppend (mVar 3) (mCons (mTup (mCons (mC (.str "and")) (mCons (mVar 6) (mCons (mTup (mCons (mC (.str "and")) (mCons (mMeth "Put" "is_number" 1 0 f_num gd_Put_is_number_1 (mVar 5) (mNil) (mNil)) (mCons (mMeth "Put" "into" 2 0 f_into gd_Put_into_2 (mVar 5) (mCons (mVar 0) (mNil)) (mNil)) (mNil))))) (mNil))))) (mNil)))
theorem some_inner {n k : Nat} {s : Sen} {f : Int} {M : Sto} {ps : List PI} {ss : List Sen} {a b c d : Option D} {m0 : Nat} (hk : dep s + 4 ≤ k + 1) (v : Val (n + 1) s) (h : Nice s) (hn : n < 1000) (hit : ∀ p ∈ ps, PI.ok n p) (hl : ss.length + ps.length ≤ 16777000) :
    ∃ b' c', forL (mGSeq 2 (mGCons (mGN 5) (mGCons (mGN 6) (mGNil)))) (SB (S_Put_into (k + 1)) (S_Put_is_number (k + 1))) kT (ps.map PI.d) (SG s f m0 M.length a b c d) (M ++ [MO.lst (ss.map enc)]) = .nx (SG s f m0 M.length a b' c' d) (M ++ [MO.lst ((ss ++ ps.map (told1 s)).map enc)]) := by
  obtain ⟨Γ', M', e, b', c', rfl, rfl⟩ := for_inv (g := (mGSeq 2 (mGCons (mGN 5) (mGCons (mGN 6) (mGNil))))) (M := M ++ [MO.lst (ss.map enc)]) (ds := ps.map PI.d) (Γ := SG s f m0 M.length a b c d) (body := SB (S_Put_into (k + 1)) (S_Put_is_number (k + 1)))
    (I := fun i Γ M' => ∃ (b c : Option D), Γ = SG s f m0 M.length a b c d ∧ M' = M ++ [MO.lst ((ss ++ (ps.take i).map (told1 s)).map enc)])
    ⟨b, c, rfl, by simp⟩ fun i x Γ M1 hx ⟨b, c, hΓ, hM1⟩ => by
      subst hΓ hM1
      rw [List.getElem?_map] at hx
      cases hx2 : ps[i]? with
      | none => rw [hx2] at hx; cases hx
      | some p =>
        rw [hx2] at hx
        cases hx
        have hi : i < ps.length := (List.getElem?_eq_some_iff.mp hx2).1
        obtain ⟨e1, e2, e3, e4⟩ := hit p (List.mem_of_getElem? hx2)
        have hss : (ss ++ (ps.take (i + 1)).map (told1 s)).map enc = (ss ++ (ps.take i).map (told1 s)).map enc ++ [enc (told1 s p)] := by
          rw [List.take_add_one, hx2]; simp
        rw [hss]
        have hlen : ((ss ++ (ps.take i).map (told1 s)).map enc).length < 16777216 := by simp; omega
        generalize (ss ++ (ps.take i).map (told1 s)).map enc = A at *
        obtain ⟨s', es, vs, ds, qs⟩ := into (st := p.st) (pa := p.pa) (M := M ++ [MO.lst A]) e1 e2 hn s (k + 1) hk v h
        have en := is_number (L := k + 1) (sl := p.sl) (st := p.st) (pa := p.pa) (M := M ++ [MO.lst A]) (by omega)
        have ap : ∀ d, fAppend (.ref M.length) [d] (M ++ [MO.lst A]) = .ok .non (M ++ [MO.lst (A ++ [d])]) := fun d => append_app (by omega)
        have pr : preL (M ++ [MO.lst A]) (.ref M.length) = true := preL_app
        refine ⟨SG s f m0 M.length a (some (putD p.sl p.st p.pa)) (some (enc p.w)) d, M ++ [MO.lst A], SG s f m0 M.length a (some (putD p.sl p.st p.pa)) (some (enc p.w)) d, M ++ [MO.lst (A ++ [enc (told1 s p)])], by simp [PI.d], .inl ?_, _, _, rfl, rfl⟩
        subst qs
        generalize hN : M ++ [MO.lst A] = N at *
        simp [meth_obj, es, en, pr, ap, enc, told1]
  rw [List.length_map, List.take_length] at e
  exact ⟨b', c', e⟩
end K83

namespace K83
open PySem DL
theorem nought {n : Nat} (h1 : 1 ≤ n) (h2 : n ≤ 1000) {M : Sto} : fMul (.tup [.int 0]) (.int n) M = .ok (.tup (il (List.replicate n 0))) M := by
  unfold fMul
  dsimp only
  by_cases h : n = 1
  · subst h
    exact (if_pos (by decide : ((1 : Nat) : Int) = 1)).trans rfl
  · rw [if_neg (by omega), if_pos ⟨by simp, by omega, by omega, by simp⟩]
    congr 2
    rw [Int.toNat_natCast]
    have : ∀ k : Nat, (List.replicate k [D.int 0]).flatten = il (List.replicate k 0) := fun k => by
      induction k with
      | zero => rfl
      | succ k ih => rw [List.replicate_succ, List.replicate_succ, List.flatten_cons, ih]; rfl
    exact this n
/-- the puts of an atom's break -/
def putsA (f : Nat) : Sen → List PI
  | .least w b => putsL w.dropLast (w.getLast?.getD 0) b f
  | _ => []
/-- all that plainly_some tells -/
def heads0 (n : Nat) (s : Sen) (f : Nat) : List Sen := (List.range f).map fun i : Nat => put (List.replicate n 0) (0 + (i : Int)) 1 s
def toldL (n : Nat) (s : Sen) (f : Nat) (as : List Sen) : List Sen := heads0 n s f ++ as.flatMap fun a => (putsA f a).map (told1 s)
theorem pit_ok {n : Nat} {fore : List Int} {last c b r i : Int} {w : Sen} (hl : fore.length = n) (hb : 1 ≤ b ∧ b ≤ 900) (hv : Val n w) (hd : dep w = 0) : PI.ok n (pit fore last c b r i w) := by
  unfold pit
  split
  · exact ⟨by simp [hl], hb, hv, hd⟩
  · exact ⟨hl, hb, hv, hd⟩
theorem putsL_ok {n f : Nat} {fore : List Int} {last c : Int} (hl : fore.length = n) (h0 : last ≠ 0) (hw : -900 ≤ last ∧ last ≤ 900) : ∀ p ∈ putsL fore last c f, PI.ok n p := by
  intro p hp
  unfold putsL putsB pits at hp
  obtain ⟨i, hi, hp⟩ := List.mem_flatMap.mp hp
  obtain ⟨j, hj, rfl⟩ := List.mem_map.mp hp
  exact pit_ok hl (by omega) ⟨hl, by omega⟩ rfl
theorem putsL_len {f : Nat} {fore : List Int} {last c : Int} : (putsL fore last c f).length = last.natAbs * f := putsB_len
end K83

namespace K83
open PySem DL
theorem brk_form {n : Nat} {s : Sen} (v : Val (n + 1) s) (h : Nice s) : ∀ a ∈ (atoms s).filter brk, ∃ fore last b, a = .least (fore ++ [last]) b ∧ fore.length = n ∧ last ≠ 0 ∧ (-900 ≤ last ∧ last ≤ 900) := by
  intro a ha
  obtain ⟨h1, h2⟩ := List.mem_filter.mp ha
  obtain ⟨al, ao⟩ := atoms_ok v h
  obtain ⟨vy, ny, iy⟩ := ao a h1
  cases a with
  | least w b =>
    obtain ⟨fore, l, rfl, hl⟩ := snoc vy
    refine ⟨fore, l, b, rfl, hl, ?_, wt_last ny⟩
    intro e
    simp [brk, e] at h2
  | rest w m r => simp [brk] at h2
  | neg _ => exact iy.elim
  | con _ _ => exact iy.elim
  | dis _ _ => exact iy.elim
theorem toldL_snoc {n f : Nat} {s a : Sen} {as : List Sen} : toldL n s f (as ++ [a]) = toldL n s f as ++ (putsA f a).map (told1 s) := by
  simp [toldL]
theorem toldL_le {n f : Nat} {s : Sen} {as : List Sen} {i : Nat} : (toldL n s f (as.take i)).length ≤ (toldL n s f as).length := by
  have h : as = as.take i ++ as.drop i := (List.take_append_drop i as).symm
  have e : toldL n s f as = toldL n s f (as.take i) ++ (as.drop i).flatMap fun a => (putsA f a).map (told1 s) := by
    conv => lhs; rw [h]
    simp only [toldL, List.flatMap_append, List.append_assoc]
  rw [e, List.length_append]
  omega
theorem put_vd {n : Nat} {sl : List Int} {st pa : Int} (hs : sl.length = n) (hp : 1 ≤ pa) : ∀ {s : Sen}, Val (n + 1) s → Val n (put sl st pa s) ∧ dep (put sl st pa s) = dep s
  | .least w c, v => by
    have : w.length = n + 1 := v
    exact ⟨by simp [put, Val, wIn, hs, this], rfl⟩
  | .rest w m r, v => by
    have h1 : w.length = n + 1 := v.1
    have h2 : 0 < m := v.2
    exact ⟨⟨by simp [wIn, hs, h1], Int.mul_pos (by omega) h2⟩, rfl⟩
  | .neg a, v => by
    have h := put_vd (st := st) hs hp (s := a) v
    exact ⟨h.1, by simp only [put, dep, h.2]⟩
  | .con a b, v => by
    have h := put_vd (st := st) hs hp (s := a) v.1
    have h' := put_vd (st := st) hs hp (s := b) v.2
    exact ⟨⟨h.1, h'.1⟩, by simp only [put, dep, h.2, h'.2]⟩
  | .dis a b, v => by
    have h := put_vd (st := st) hs hp (s := a) v.1
    have h' := put_vd (st := st) hs hp (s := b) v.2
    exact ⟨⟨h.1, h'.1⟩, by simp only [put, dep, h.2, h'.2]⟩
theorem toldL_all {n f : Nat} {s : Sen} {as : List Sen} (v : Val (n + 1) s) (ha : ∀ a ∈ as, ∀ p ∈ putsA f a, PI.ok n p) : ∀ t ∈ toldL n s f as, Val n t ∧ dep t ≤ dep s + 2 := by
  intro t ht
  unfold toldL heads0 at ht
  rcases List.mem_append.mp ht with ht | ht
  · obtain ⟨i, _, rfl⟩ := List.mem_map.mp ht
    have := put_vd (n := n) (sl := List.replicate n 0) (st := 0 + (i : Int)) (pa := 1) (by simp) (by omega) v
    exact ⟨this.1, by omega⟩
  · obtain ⟨a, ha1, ht⟩ := List.mem_flatMap.mp ht
    obtain ⟨p, hp, rfl⟩ := List.mem_map.mp ht
    obtain ⟨e1, e2, e3, e4⟩ := ha a ha1 p hp
    have := put_vd (n := n) (sl := p.sl) (st := p.st) (pa := p.pa) e1 e2.1 v
    exact ⟨⟨e3, e1, this.1⟩, by simp only [told1, dep, e4, this.2]; omega⟩
theorem puts_ok {n f : Nat} {s : Sen} (v : Val (n + 1) s) (h : Nice s) : ∀ a ∈ (atoms s).filter brk, ∀ p ∈ putsA f a, PI.ok n p := by
  intro a ha p hp
  obtain ⟨fore, last, b, rfl, h1, h2, h3⟩ := brk_form v h a ha
  have e : putsA f (.least (fore ++ [last]) b) = putsL fore last b f := by simp [putsA]
  rw [e] at hp
  exact putsL_ok h1 h2 h3 p hp
theorem plainly_some {n J L : Nat} {s : Sen} {M : Sto} (hL : dep s + 8 ≤ L) (v : Val (n + 1) s) (h : Nice s) (hc : cnt s ≤ 1000) (hd : dep s < 900) (hn1 : 1 ≤ n) (hn : n < 1000) (hM : Cl M) (hw : whl (atoms s) ≤ 900) (hJ : J ≤ 20) (ht : (toldL n s (whl (atoms s)) ((atoms s).filter brk)).length ≤ 2 ^ J) :
    ∃ r, S_plainly_some L [enc s] M = .ok (enc r) M ∧ Val n r ∧ dep r ≤ dep s + 2 + J ∧ halves J (toldL n s (whl (atoms s)) ((atoms s).filter brk)) = [r] := by
  obtain ⟨k, rfl⟩ : ∃ k, L = k + 2 := ⟨L - 2, by omega⟩
  rw [S_plainly_some_eq, def_ap]
  have ew := wheel_of (L := k + 1) (M := M) (by omega) v h hc hn hw
  have hf1 : 1 ≤ whl (atoms s) := by
    obtain ⟨al, ao⟩ := atoms_ok v h
    exact whl_pos fun a ha => one_pos (ao a ha).2.1 (ao a ha).2.2
  generalize whl (atoms s) = f at *
  have em := many_of (k := k - 1) (M := M) v (by omega)
  rw [show k - 1 + 2 = k + 1 from by omega] at em
  have en : fMul (.tup [.int 0]) (.int (((n + 1 : Nat) : Int) - 1)) M = .ok (.tup (il (List.replicate n 0))) M := by
    rw [show ((n + 1 : Nat) : Int) - 1 = n from by omega]
    exact nought hn1 (by omega)
  have hJ2 : (2 : Nat) ^ J ≤ 1048576 := by
    have h1 : 2 ^ J ≤ 2 ^ 20 := Nat.pow_le_pow_right (Nat.succ_pos 1) hJ
    have h2 : (2 : Nat) ^ 20 = 1048576 := by rfl
    rw [h2] at h1
    exact h1
  have elc := lc_map (g := mGN 7) (t := mYes) (e := (mMeth "Put" "into" 2 0 (S_Put_into (k + 1)) gd_Put_into_2 (mMake "Put" 3 0 (S_Put_init k) gd_Put_init_3 (mCons (mVar 2) (mCons (mVar 7) (mNil))) (mNil)) (mCons (mVar 0) (mNil)) (mNil))) (Γ := [some (enc s), some (.int f), some (.tup (il (List.replicate n 0))), none, none, none, none, none]) (M := M)
    (c := fun i : Nat => D.int ((0 : Int) + (i : Int))) (r := fun i : Nat => enc (put (List.replicate n 0) (0 + (i : Int)) 1 s)) (List.range f) fun i _ => by
      have hput : S_Put_init k [.ref M.length, .tup (il (List.replicate n 0)), .int (0 + (i : Int)), .int 1] (M ++ [MO.ins "Put" [] []]) = .ok .non (M ++ [MO.ins "Put" ["slopes", "start", "parts"] [.tup (il (List.replicate n 0)), .int (0 + (i : Int)), .int 1]]) := put_init (by omega)
      have hfrz := frz_put (sl := List.replicate n 0) (st := 0 + (i : Int)) (pa := 1) hM
      obtain ⟨s', es, vs, ds, qs⟩ := into (sl := List.replicate n 0) (st := 0 + (i : Int)) (pa := 1) (M := M) (by simp) ⟨by omega, by omega⟩ hn s (k + 1) (by omega) v h
      refine ⟨[some (enc s), some (.int f), some (.tup (il (List.replicate n 0))), none, none, none, none, some (.int (0 + (i : Int)))], by simp, by simp, ?_⟩
      subst qs
      simp at hput hfrz es
      simp [hput, hfrz, meth_obj, es]
  have eb := breaking (L := k + 1) (s := s) (M := M ++ [MO.lst ((heads0 n s f).map enc)]) (by omega) v h hc
  have ba := brk_form v h
  have bo := puts_ok (f := f) v h
  generalize hbs : (atoms s).filter brk = bs at *
  obtain ⟨Γ2, M2, e2, a, b, c, rfl, rfl⟩ := for_inv (g := mGN 4) (M := M ++ [MO.lst ((heads0 n s f).map enc)]) (ds := bs.map enc) (Γ := SG s f n M.length none none none none)
    (body := mFor (mIter (mCall 2 0 (S_puts_at (k + 1)) gd_puts_at_2 (mCons (mVar 4) (mCons (mVar 1) (mNil))) (mNil))) (mGSeq 2 (mGCons (mGN 5) (mGCons (mGN 6) (mGNil)))) (SB (S_Put_into (k + 1)) (S_Put_is_number (k + 1))))
    (I := fun i Γ M1 => ∃ (a b c : Option D), Γ = SG s f n M.length a b c none ∧ M1 = M ++ [MO.lst ((toldL n s f (bs.take i)).map enc)])
    ⟨none, none, none, rfl, by simp [toldL]⟩ fun i x Γ M1 hx ⟨a, b, c, hΓ, hM1⟩ => by
      subst hΓ hM1
      rw [List.getElem?_map] at hx
      cases hx2 : bs[i]? with
      | none => rw [hx2] at hx; cases hx
      | some y =>
        rw [hx2] at hx
        cases hx
        have hi : i < bs.length := (List.getElem?_eq_some_iff.mp hx2).1
        obtain ⟨fore, last, c0, rfl, q1, q2, q3⟩ := ba y (List.mem_of_getElem? hx2)
        have tk : bs.take (i + 1) = bs.take i ++ [.least (fore ++ [last]) c0] := by rw [List.take_add_one, hx2]; rfl
        have hA : putsA f (.least (fore ++ [last]) c0) = putsL fore last c0 f := by simp [putsA]
        have hpo := bo _ (List.mem_of_getElem? hx2)
        rw [hA] at hpo
        have hle := toldL_le (n := n) (f := f) (s := s) (as := bs) (i := i + 1)
        rw [tk, toldL_snoc, hA] at hle ⊢
        rw [List.length_append, List.length_map] at hle
        generalize toldL n s f (bs.take i) = ss at *
        have hlow : (MO.lst (ss.map enc)).low (M.length + 1) = true := encs_low
        have ep := puts_at (L := k + 1) (c := c0) (f := f) (M := M ++ [MO.lst (ss.map enc)]) (by omega) q1 q3 q2 hw hn (hM.app hlow)
        obtain ⟨b', c', e3⟩ := some_inner (n := n) (k := k) (s := s) (f := f) (M := M) (ps := putsL fore last c0 f) (ss := ss) (a := some (enc (.least (fore ++ [last]) c0))) (b := b) (c := c) (d := none) (m0 := n) (by omega) v h hn hpo (by omega)
        refine ⟨SG s f n M.length (some (enc (.least (fore ++ [last]) c0))) b c none, M ++ [MO.lst (ss.map enc)], SG s f n M.length (some (enc (.least (fore ++ [last]) c0))) b' c' none, M ++ [MO.lst ((ss ++ (putsL fore last c0 f).map (told1 s)).map enc)], by simp, .inl ?_, _, _, _, rfl, rfl⟩
        generalize hR : M ++ [MO.lst ((ss ++ (putsL fore last c0 f).map (told1 s)).map enc)] = R at e3 ⊢
        generalize hN : M ++ [MO.lst (ss.map enc)] = N at *
        simp [ep]
        exact e3
  rw [List.length_map, List.take_length] at e2
  have hall := toldL_all (n := n) (f := f) (as := bs) v bo
  have hne : toldL n s f bs ≠ [] := by
    intro e
    unfold toldL heads0 at e
    rw [List.append_eq_nil_iff, List.map_eq_nil_iff, List.range_eq_nil] at e
    omega
  generalize hT : toldL n s f bs = T at *
  obtain ⟨r, ea, vr, dr, hr⟩ := any_of (n := n) (J := J) (L := k + 1) (M := M ++ [MO.lst (T.map enc)]) (d := .ref M.length) (ss := T) (D0 := dep s + 2) (by omega) (.ref get_app) hne ht hJ hall
  refine ⟨r, ?_, vr, by omega, hr⟩
  have hr : (f : Int) ≤ 16777216 ∧ -4611686018427387904 ≤ (f : Int) := by omega
  have hup : (List.range f).map (fun i : Nat => D.int ((0 : Int) + (i : Int))) = DL.upTo 0 f := by simp [DL.upTo]
  rw [hup] at elc
  have htr := trim_cl (d := enc r) (M' := [MO.lst (T.map enc)]) (low_enc r) hM
  simp [SG] at e2
  have en2 := nought (M := M) hn1 (show n ≤ 1000 by omega)
  have hh : (List.range f).map (fun i : Nat => enc (put (List.replicate n 0) (0 + (i : Int)) 1 s)) = (heads0 n s f).map enc := by simp [heads0]
  rw [hh] at elc
  generalize (heads0 n s f).map enc = HD at *
  simp [B_plainly_some, ew, em, hr, en2, elc, eb]
  unfold SB at e2
  rw [e2]
  simp [ea]
  exact htr
end K83

namespace K83
open PySem DL
/-! ### halves keep the atoms -/
theorem step_nil {lo st : Nat} : stepD lo st ([] : List Sen) = [] := by
  unfold stepD
  rw [List.filterMap_eq_nil_iff]
  simp
theorem step1_one {a : Sen} : stepD 1 2 [a] = [] := by
  have h := (step_get (lo := 1) (xs := [a]) (by simp)).1
  exact List.eq_nil_of_length_eq_zero (h.trans (by simp))
theorem step0_cons {a b : Sen} {l : List Sen} : stepD 0 2 (a :: b :: l) = a :: stepD 0 2 l := by
  obtain ⟨l1, g1⟩ := step_get (lo := 0) (xs := a :: b :: l) (Nat.zero_le _)
  obtain ⟨l2, g2⟩ := step_get (lo := 0) (xs := l) (Nat.zero_le _)
  simp only [List.length_cons] at l1 g1
  apply List.ext_getElem?
  intro i
  by_cases hi : i < (l.length + 1 + 1 - 0 + 1) / 2
  · rw [g1 i hi]
    cases i with
    | zero => rfl
    | succ i =>
      rw [List.getElem?_cons_succ, g2 i (by omega)]
      rw [show 0 + 2 * (i + 1) = (0 + 2 * i) + 1 + 1 from by omega, List.getElem?_cons_succ, List.getElem?_cons_succ]
  · rw [List.getElem?_eq_none (by omega), List.getElem?_eq_none (by simp only [List.length_cons]; omega)]
theorem step1_cons {a b : Sen} {l : List Sen} : stepD 1 2 (a :: b :: l) = b :: stepD 1 2 l := by
  obtain ⟨l1, g1⟩ := step_get (lo := 1) (xs := a :: b :: l) (by simp)
  simp only [List.length_cons] at l1 g1
  by_cases h0 : l = []
  · subst h0
    rw [step_nil]
    apply List.ext_getElem?
    intro i
    cases i with
    | zero => rw [g1 0 (by simp)]; rfl
    | succ i => rw [List.getElem?_eq_none (by rw [l1]; simp), List.getElem?_eq_none (by simp)]
  · have hl : 1 ≤ l.length := by cases l with | nil => exact absurd rfl h0 | cons => simp
    obtain ⟨l2, g2⟩ := step_get (lo := 1) (xs := l) hl
    apply List.ext_getElem?
    intro i
    by_cases hi : i < (l.length + 1 + 1 - 1 + 1) / 2
    · rw [g1 i hi]
      cases i with
      | zero => rfl
      | succ i =>
        rw [List.getElem?_cons_succ, g2 i (by omega)]
        rw [show 1 + 2 * (i + 1) = (1 + 2 * i) + 1 + 1 from by omega, List.getElem?_cons_succ, List.getElem?_cons_succ]
    · rw [List.getElem?_eq_none (by omega), List.getElem?_eq_none (by simp only [List.length_cons]; omega)]
theorem half_cons {a b : Sen} {l : List Sen} : half (a :: b :: l) = .dis a b :: half l := by
  unfold half
  rw [step0_cons, step1_cons]
  simp only [List.zip_cons_cons, List.map_cons, List.length_cons, List.cons_append]
  rw [show (l.length + 1 + 1) / 2 * 2 = l.length / 2 * 2 + 1 + 1 from by omega]
  rfl
theorem half_flat : ∀ {ss : List Sen}, (half ss).flatMap atoms = ss.flatMap atoms
  | [] => rfl
  | [a] => by
    unfold half
    rw [step1_one]
    simp
  | a :: b :: l => by
    rw [half_cons, List.flatMap_cons, half_flat (ss := l)]
    simp [atoms]
theorem halves_flat : ∀ (j : Nat) {ss : List Sen}, (halves j ss).flatMap atoms = ss.flatMap atoms
  | 0, _ => rfl
  | j + 1, ss => by
    unfold halves
    split
    · rw [halves_flat j, half_flat]
    · rfl
end K83

namespace K83
open PySem DL
/-! ### the law's jar -/
def KS : List L2.Key := [.inr "cells", .inr "rest", .inr "seed", .inr "turn"]
def JM (cells : List Int) (rest seed turn : Int) : Sto := [.lst (il cells), .dk KS [.ref 0, .int rest, .int seed, .int turn]]
theorem j_cells {c : List Int} {r s t : Int} : fDGet (.ref 1) (.str "cells") (JM c r s t) = .ok (.ref 0) (JM c r s t) := by rfl
theorem j_rest {c : List Int} {r s t : Int} : fDGet (.ref 1) (.str "rest") (JM c r s t) = .ok (.int r) (JM c r s t) := by rfl
theorem j_seed {c : List Int} {r s t : Int} : fDGet (.ref 1) (.str "seed") (JM c r s t) = .ok (.int s) (JM c r s t) := by rfl
theorem j_turn {c : List Int} {r s t : Int} : fDGet (.ref 1) (.str "turn") (JM c r s t) = .ok (.int t) (JM c r s t) := by rfl
theorem p_rest {c : List Int} {r s t x : Int} {Γ : DEnv} : putS (.ref 1) (.str "rest") (.int x) Γ (JM c r s t) = .nx Γ (JM c x s t) := by rfl
theorem p_seed {c : List Int} {r s t x : Int} {Γ : DEnv} : putS (.ref 1) (.str "seed") (.int x) Γ (JM c r s t) = .nx Γ (JM c r x t) := by rfl
theorem p_turn {c : List Int} {r s t x : Int} {Γ : DEnv} : putS (.ref 1) (.str "turn") (.int x) Γ (JM c r s t) = .nx Γ (JM c r s x) := by rfl
theorem pl_il : ∀ c : List Int, plDs (il c) = true
  | [] => rfl
  | _ :: c => by rw [il_cons]; unfold plDs; rw [pl_il c]; rfl
theorem dep_il : ∀ c : List Int, depDs (il c) = 0
  | [] => rfl
  | _ :: c => by rw [il_cons]; unfold depDs; rw [dep_il c]; rfl
theorem cells_ne {c : List Int} {r s t : Int} : fNe (.ref 0) (.lst []) (JM c r s t) = some (!c.isEmpty) := by
  have h1 : ∀ M, fNe (.lst (il c)) (.lst []) M = some (!c.isEmpty) := fun M => by
    rw [ne_pl (by unfold plD; exact pl_il c) (by rfl) (by unfold depD; rw [dep_il]; decide) (by decide)]
    cases c <;> rfl
  exact h1 (JM c r s t)
theorem cells_pop {x : Int} {c : List Int} {r s t : Int} : fPopAt (.ref 0) [.int 0] (JM (x :: c) r s t) = .ok (.int x) (JM c r s t) := by
  unfold fPopAt JM
  simp only [List.getElem?_cons_zero]
  rw [if_pos (by omega)]
  have : seqIndex? 0 (il (x :: c)).length = some 0 := by
    rw [il_cons]
    simp [seqIndex?]
  rw [this, il_cons]
  rfl
theorem cells_pre {c : List Int} {r s t : Int} : preL (JM c r s t) (.ref 0) = true := by rfl

theorem j_trim {d : D} {c : List Int} {r s t : Int} {n : Nat} (h : 2 ≤ n) : (Res.ok d (JM c r s t)).trim n = .ok d (JM c r s t) := trim_len (by unfold JM; exact h)
def mixA (x : Int) : Int := Builtin.bitXor x (x / 1073741824) * 13787848793156543929 % 18446744073709551616
def mixB (x : Int) : Int := Builtin.bitXor x (x / 134217728) * 10723151780598845931 % 18446744073709551616
def mix (x : Int) : Int := Builtin.bitXor (mixB (mixA x)) (mixB (mixA x) / 2147483648)
theorem law_mix {L : Nat} {x : Int} {M : Sto} (hL : 2 ≤ L) : S__law_mix L [.int x] M = .ok (.int (mix x)) M := by
  obtain ⟨k, rfl⟩ : ∃ k, L = k + 2 := ⟨L - 2, by omega⟩
  rw [S__law_mix_eq, def_ap]
  have d1 : ∀ x : Int, fDiv (.int x) (.int 1073741824) M = .ok (.int (x / 1073741824)) M := fun x => by
    unfold fDiv
    exact if_pos (by decide +kernel)
  have d2 : ∀ x : Int, fDiv (.int x) (.int 134217728) M = .ok (.int (x / 134217728)) M := fun x => div_i (by omega) (by omega)
  have d3 : ∀ x : Int, fDiv (.int x) (.int 2147483648) M = .ok (.int (x / 2147483648)) M := fun x => by
    unfold fDiv
    exact if_pos (by decide +kernel)
  have m1 : ∀ x : Int, fMul (.int x) (.int 13787848793156543929) M = .ok (.int (x * 13787848793156543929)) M := fun x => mul_r (by omega)
  have m2 : ∀ x : Int, fMul (.int x) (.int 10723151780598845931) M = .ok (.int (x * 10723151780598845931)) M := fun x => mul_r (by omega)
  have md : ∀ x : Int, fMod (.int x) (.int 18446744073709551616) M = .ok (.int (x % 18446744073709551616)) M := fun x => mod_i (by omega)
  simp only [B__law_mix, e_seq, e_asg, e_bin, e_var, e_c, List.map_cons, List.map_nil, List.length_cons, List.length_nil, List.replicate, List.nil_append, List.cons_append, List.getElem?_cons_zero, Res.bind_ok, d1, d2, d3, m1, m2, md, xor_i, toS_ok, toSG_ok, e_gn, rs_nx, List.set_cons_zero, e_ret, toR_ret]
  rw [trim_len (Nat.le_refl _)]
  rfl
theorem mix_bd (x : Int) : 0 ≤ mix x ∧ mix x < 18446744073709551616 := by
  have h0 : 0 ≤ mixB (mixA x) ∧ mixB (mixA x) < 18446744073709551616 := ⟨Int.emod_nonneg _ (by omega), Int.emod_lt_of_pos _ (by omega)⟩
  unfold mix
  generalize mixB (mixA x) = b at *
  have h1 : 0 ≤ b / 2147483648 := by omega
  rw [Bits.bitXor_pp h0.1 h1]
  have h2 := Nat.xor_lt_two_pow (x := b.toNat) (y := (b / 2147483648).toNat) (n := 64) (by omega) (by omega)
  have e : (2 : Nat) ^ 64 = 18446744073709551616 := by rfl
  rw [e] at h2
  omega
theorem pow18 {M : Sto} : fPow (.int 10) (.int 18) M = .ok (.int 1000000000000000000) M := by
  unfold fPow
  dsimp only
  rw [if_pos (by decide)]
  rfl
/-- what a pick tells -/
def Picks (m : Int) (R : Res D) : Prop := ∃ (d : Int) (c : List Int) (r s t : Int), R = .ok (.int d) (JM c r s t) ∧ 0 ≤ d ∧ d < m
theorem Picks.of {m x r s t : Int} {c : List Int} (h : 0 < m) : Picks m (.ok (.int (x % m)) (JM c r s t)) := ⟨_, _, _, _, _, rfl, Int.emod_nonneg _ (by omega), Int.emod_lt_of_pos _ h⟩
theorem pick {L : Nat} {c : List Int} {r s t : Int} {m : Int} (hL : 4 ≤ L) (hm : 0 < m) (hm2 : m < 1073741824) : Picks m (S__law_pick L [.ref 1, .int m] (JM c r s t)) := by
  obtain ⟨k, rfl⟩ : ∃ k, L = k + 2 := ⟨L - 2, by omega⟩
  rw [S__law_pick_eq, def_ap]
  have md : ∀ (x : Int) M, fMod (.int x) (.int m) M = .ok (.int (x % m)) M := fun x M => mod_i hm
  have dv : ∀ (x : Int) M, fDiv (.int x) (.int m) M = .ok (.int (x / m)) M := fun x M => div_i hm hm2
  have md2 : ∀ (x : Int) M, fMod (.int x) (.int 18446744073709551616) M = .ok (.int (x % 18446744073709551616)) M := fun x M => mod_i (by omega)
  have mx : ∀ (x : Int) M, S__law_mix (k + 1) [.int x] M = .ok (.int (mix x)) M := fun x M => law_mix (by omega)
  have m7 : ∀ (x : Int) M, fMul (.int x) (.int 7) M = .ok (.int (x * 7)) M := fun x M => mul_r (by omega)
  have mt : ∀ (x : Int) M, fMul (.int x) (.int 11400714819323198485) M = .ok (.int (x * 11400714819323198485)) M := fun x M => mul_r (by omega)
  have mw : ∀ (x : Int) M, fMul (.int (mix x)) (.int 18446744073709551616) M = .ok (.int (mix x * 18446744073709551616)) M := fun x M => mul_l (by have := mix_bd x; omega)
  have tr : ∀ {d : D} {c c' : List Int} {r r' s s' t t' : Int}, (Res.ok d (JM c r s t)).trim (JM c' r' s' t').length = .ok d (JM c r s t) := fun {d c c' r r' s s' t t'} => j_trim (Nat.le_refl _)
  generalize hQ : Picks m = Q
  have fin : ∀ {x r s t : Int} {c : List Int}, Q (.ok (.int (x % m)) (JM c r s t)) := fun {x r s t c} => by rw [← hQ]; exact Picks.of hm
  by_cases hr : r < m
  · cases c with
    | nil =>
      simp [B__law_pick, j_cells, j_rest, j_seed, j_turn, p_rest, p_seed, p_turn, hr, cells_ne, mx, md, md2, dv, tr, fin]
    | cons x c =>
      by_cases hx : x < 1000000000000000000
      · simp [B__law_pick, j_cells, j_rest, j_seed, j_turn, p_rest, p_seed, p_turn, hr, cells_ne, cells_pop, cells_pre, pow18, hx, mx, md, md2, dv, m7, mt, mw, tr, fin]
      · simp [B__law_pick, j_cells, j_rest, j_seed, j_turn, p_rest, p_seed, p_turn, hr, cells_ne, cells_pop, cells_pre, pow18, hx, mx, md, md2, dv, tr, fin]
  · simp [B__law_pick, j_cells, j_rest, j_seed, j_turn, p_rest, p_seed, p_turn, hr, md, dv, tr, fin]
end K83

namespace K83
open PySem DL
def IsJ (M : Sto) : Prop := ∃ c r s t, M = JM c r s t
theorem IsJ.cl {M : Sto} (h : IsJ M) : Cl M := by
  obtain ⟨c, r, s, t, rfl⟩ := h
  unfold Cl JM
  simp [MO.low, lows, D.low, low_il]
theorem IsJ.len {M : Sto} (h : IsJ M) : M.length = 2 := by
  obtain ⟨c, r, s, t, rfl⟩ := h
  rfl
theorem pk {L : Nat} {M : Sto} {m : Int} (hL : 4 ≤ L) (h : IsJ M) (hm : 0 < m) (hm2 : m < 1073741824) : ∃ d M', S__law_pick L [.ref 1, .int m] M = .ok (.int d) M' ∧ IsJ M' ∧ 0 ≤ d ∧ d < m := by
  obtain ⟨c, r, s, t, rfl⟩ := h
  obtain ⟨d, c', r', s', t', e, h1, h2⟩ := pick (c := c) (r := r) (s := s) (t := t) hL hm hm2
  exact ⟨d, _, e, ⟨c', r', s', t', rfl⟩, h1, h2⟩
theorem jtrim {d : D} {M M' : Sto} (h : IsJ M) (h' : IsJ M') : (Res.ok d M').trim M.length = .ok d M' := trim_len (by rw [h.len, h'.len]; exact Nat.le_refl _)
/-- the sentences that are drawn -/
def Wt3 (w : List Int) : Prop := ∀ x ∈ w, -3 ≤ x ∧ x ≤ 3
def Small (n : Nat) : Sen → Prop
  | .least w c => w.length = n ∧ Wt3 w ∧ -4 ≤ c ∧ c ≤ 4
  | .rest w m r => w.length = n ∧ Wt3 w ∧ (2 ≤ m ∧ m ≤ 5) ∧ 0 ≤ r ∧ r < m
  | .neg a => Small n a
  | .con a b => Small n a ∧ Small n b
  | .dis a b => Small n a ∧ Small n b
theorem weights_ev {L n : Nat} {M : Sto} (hL : 4 ≤ L) (hn : n ≤ 3) (h : IsJ M) :
    ∃ (w : List Int) (M' : Sto), (∀ Γ : DEnv, Γ.length = 5 → lcL (mGN 4) mYes (mBin fSub (mCall 2 0 (S__law_pick L) gd__law_pick_2 (mCons (mVar 0) (mCons (mC (.int 7)) (mNil))) (mNil)) (mC (.int 3))) kT Γ (DL.upTo 0 n) M = .ok (il w) M' ∨ Γ[0]? ≠ some (some (.ref 1))) ∧ w.length = n ∧ Wt3 w ∧ IsJ M' := by
  have hup : DL.upTo 0 (n : Int) = (List.range n).map fun i : Nat => D.int ((0 : Int) + (i : Int)) := by simp [DL.upTo]
  rw [hup]
  suffices hs : ∀ (xs : List Nat) (M : Sto), IsJ M → ∃ (w : List Int) (M' : Sto), (∀ Γ : DEnv, Γ.length = 5 → lcL (mGN 4) mYes (mBin fSub (mCall 2 0 (S__law_pick L) gd__law_pick_2 (mCons (mVar 0) (mCons (mC (.int 7)) (mNil))) (mNil)) (mC (.int 3))) kT Γ (xs.map fun i : Nat => D.int ((0 : Int) + (i : Int))) M = .ok (il w) M' ∨ Γ[0]? ≠ some (some (.ref 1))) ∧ w.length = xs.length ∧ Wt3 w ∧ IsJ M' by
    have := hs (List.range n) M h
    simpa using this
  intro xs
  induction xs with
  | nil => intro M h; exact ⟨[], M, fun Γ _ => .inl rfl, rfl, fun _ h => (nomatch h), h⟩
  | cons x xs ih =>
    intro M h
    obtain ⟨d, M1, e1, h1, d0, d1⟩ := pk hL h (m := 7) (by omega) (by omega)
    obtain ⟨w, M', e2, hl, hw, h2⟩ := ih M1 h1
    refine ⟨(d - 3) :: w, M', fun Γ hΓ => ?_, by simp [hl], fun y hy => ?_, h2⟩
    · by_cases h0 : Γ[0]? = some (some (.ref 1))
      · rcases e2 Γ hΓ with e2 | e2
        · refine .inl ?_
          have h04 : (Γ.set 4 (some (D.int (0 + (x : Int)))))[0]? = some (some (.ref 1)) := by rw [List.getElem?_set_ne (by omega)]; exact h0
          rw [List.map_cons, lc_turn (y := .int (d - 3)) (M3 := M1) (M2 := M) (M1 := M) (Γ1 := Γ.set 4 (some (.int (0 + (x : Int))))) (by simp) (by simp) (by simp [h0, e1]), e2]
          simp [il_cons]
        · exact absurd h0 e2
      · exact .inr h0
    · rcases List.mem_cons.mp hy with rfl | hy
      · omega
      · exact hw y hy
theorem simple_ev {L n : Nat} {M : Sto} (hL : 6 ≤ L) (hn : n ≤ 3) (h : IsJ M) : ∃ (s : Sen) (M' : Sto), S__law_simple L [.ref 1, .int n] M = .ok (enc s) M' ∧ IsJ M' ∧ Small n s ∧ dep s = 0 ∧ cnt s = 1 := by
  obtain ⟨k, rfl⟩ : ∃ k, L = k + 2 := ⟨L - 2, by omega⟩
  rw [S__law_simple_eq, def_ap]
  obtain ⟨w, M1, e1, hl, hw, h1⟩ := weights_ev (L := k + 1) (n := n) (M := M) (by omega) hn h
  have e1' := fun (a b : Option D) => (e1 [some (.ref 1), some (.int n), a, b, none] rfl).resolve_right (by simp)
  obtain ⟨d2, M2, e2, h2, p0, p1⟩ := pk (L := k + 1) (by omega) h1 (m := 2) (by omega) (by omega)
  have hr : (n : Int) ≤ 16777216 ∧ -4611686018427387904 ≤ (n : Int) := by omega
  by_cases hd : d2 = 0
  · obtain ⟨d3, M3, e3, h3, q0, q1⟩ := pk (L := k + 1) (by omega) h2 (m := 9) (by omega) (by omega)
    refine ⟨.least w (d3 - 4), M3, ?_, h3, ⟨hl, hw, by omega, by omega⟩, rfl, rfl⟩
    have tr := jtrim (d := enc (.least w (d3 - 4))) h h3
    simp only [enc] at tr
    simp [B__law_simple, hr, e1', e2, hd, e3, enc, tr]
  · obtain ⟨d3, M3, e3, h3, q0, q1⟩ := pk (L := k + 1) (by omega) h2 (m := 4) (by omega) (by omega)
    obtain ⟨d4, M4, e4, h4, r0, r1⟩ := pk (L := k + 1) (by omega) h3 (m := 2 + d3) (by omega) (by omega)
    refine ⟨.rest w (2 + d3) d4, M4, ?_, h4, ⟨hl, hw, ⟨by omega, by omega⟩, r0, r1⟩, rfl, rfl⟩
    have tr := jtrim (d := enc (.rest w (2 + d3) d4)) h h4
    simp only [enc] at tr
    have hd' : decide (d2 = 0) = false := decide_eq_false hd
    simp [B__law_simple, hr, e1', e2, hd', e3, e4, enc, tr]
theorem sentence_ev {n : Nat} (hn : n ≤ 3) : ∀ (w L : Nat) (M : Sto), w + 8 ≤ L → w ≤ 2 → IsJ M → ∃ (s : Sen) (M' : Sto), S__law_sentence L [.ref 1, .int n, .int w] M = .ok (enc s) M' ∧ IsJ M' ∧ Small n s ∧ dep s ≤ w ∧ cnt s ≤ 2 ^ w
  | w, L, M, hL, hw, h => by
    obtain ⟨k, rfl⟩ : ∃ k, L = k + 2 := ⟨L - 2, by omega⟩
    rw [S__law_sentence_eq, def_ap]
    obtain ⟨d, M1, e1, h1, d0, d1⟩ := pk (L := k + 1) (by omega) h (m := 5) (by omega) (by omega)
    match w, hL, hw with
    | 0, hL, hw =>
      obtain ⟨s, M2, e2, h2, hs, hd, hc⟩ := simple_ev (L := k + 1) (n := n) (by omega) hn h1
      refine ⟨s, M2, ?_, h2, hs, by omega, by rw [hc]; decide⟩
      have m0 : ∀ M, fMul (.int d) (.int 0) M = .ok (.int 0) M := fun M => by rw [mul_l (by omega)]; simp
      have tr := jtrim (d := enc s) h h2
      simp [B__law_sentence, e1, m0, e2, tr]
    | w + 1, hL, hw =>
      have hwp : (0 : Int) < ((w + 1 : Nat) : Int) := by omega
      have m1 : ∀ M, fMul (.int d) (.int 1) M = .ok (.int d) M := fun M => by rw [mul_l (by omega)]; simp
      have hw1 : ((w + 1 : Nat) : Int) - 1 = (w : Int) := by omega
      have e2p : 2 ^ (w + 1) = 2 ^ w + 2 ^ w := by rw [Nat.pow_succ]; omega
      have e1p : 1 ≤ 2 ^ w := Nat.one_le_two_pow
      by_cases hd : d < 2
      · obtain ⟨s, M2, e2, h2, hs, hdp, hc⟩ := simple_ev (L := k + 1) (n := n) (by omega) hn h1
        refine ⟨s, M2, ?_, h2, hs, by omega, by omega⟩
        have tr := jtrim (d := enc s) h h2
        simp [B__law_sentence, e1, m1, hwp, hd, e2, tr, -Int.natCast_add]
      · obtain ⟨a, M2, e2, h2, ha, da, ca⟩ := sentence_ev hn w (k + 1) M1 (by omega) (by omega) h1
        have hd' : decide (d < 2) = false := decide_eq_false hd
        by_cases h2d : d = 2
        · refine ⟨.neg a, M2, ?_, h2, ha, by simp only [dep]; omega, by simp only [cnt]; omega⟩
          have tr := jtrim (d := enc (.neg a)) h h2
          simp only [enc] at tr
          subst h2d
          simp [B__law_sentence, e1, m1, hwp, hw1, e2, enc, tr, -Int.natCast_add]
        · obtain ⟨b, M3, e3, h3, hb, db, cb⟩ := sentence_ev hn w (k + 1) M2 (by omega) (by omega) h2
          have h2' : decide (d = 2) = false := decide_eq_false h2d
          have : d = 3 ∨ d = 4 := by omega
          rcases this with rfl | rfl
          · refine ⟨.con a b, M3, ?_, h3, ⟨ha, hb⟩, by simp only [dep]; omega, by simp only [cnt]; omega⟩
            have tr := jtrim (d := enc (.con a b)) h h3
            simp only [enc] at tr
            simp [B__law_sentence, e1, m1, hwp, hw1, e2, e3, enc, tr, -Int.natCast_add]
          · refine ⟨.dis a b, M3, ?_, h3, ⟨ha, hb⟩, by simp only [dep]; omega, by simp only [cnt]; omega⟩
            have tr := jtrim (d := enc (.dis a b)) h h3
            simp only [enc] at tr
            simp [B__law_sentence, e1, m1, hwp, hw1, e2, e3, enc, tr, -Int.natCast_add]
end K83

namespace K83
open PySem DL
open TL (tl)
/-! ### how a sentence is written -/
theorem str_ext {x y : Str} (h : tl x = tl y) : x = y := by
  obtain ⟨a⟩ := x
  obtain ⟨b⟩ := y
  congr 1
  exact Array.toList_inj.mp h
theorem tl_app (x y : Str) : tl (x ++ y) = tl x ++ tl y := TL.tl_append x y
theorem len_app (x y : Str) : (x ++ y).length = x.length + y.length := Str.length_append x y
theorem len_tl (x : Str) : x.length = (tl x).length := by simp [Str.length, tl]
def sI (i : Int) : Str := Str.ofString (toString i)
theorem digits_len (b : Nat) : ∀ (f n : Nat) (acc : List Char), (Nat.toDigitsCore b f n acc).length ≤ f + acc.length
  | 0, n, acc => by simp [Nat.toDigitsCore]
  | f + 1, n, acc => by
    unfold Nat.toDigitsCore
    dsimp only
    split
    · simp; omega
    · have := digits_len b f (n / b) (Nat.digitChar (n % b) :: acc)
      simp at this
      omega
theorem sI_len (i : Int) : (sI i).length ≤ i.natAbs + 2 := by
  unfold sI
  rw [len_tl, TL.tl_ofString, List.length_map]
  cases i with
  | ofNat n =>
    have h : (toString (Int.ofNat n)).toList.length ≤ n + 1 := by
      show (toString n).toList.length ≤ n + 1
      have := digits_len 10 (n + 1) n []
      simpa [toString, Nat.repr, Nat.toDigits] using this
    simp at h ⊢
    omega
  | negSucc n =>
    have h : (toString (Int.negSucc n)).toList.length ≤ n + 3 := by
      show ("-" ++ toString (n + 1)).toList.length ≤ n + 3
      have := digits_len 10 (n + 2) (n + 1) []
      simp [toString, Nat.repr, Nat.toDigits] at this ⊢
      omega
    simp at h ⊢
    omega
def wr : Sen → Str
  | .least w c => Str.join " " ["least", Str.join "," (w.map sI), sI c]
  | .rest w m r => Str.join " " ["rest", Str.join "," (w.map sI), sI m, sI r]
  | .neg a => "not " ++ wr a
  | .con a b => "(" ++ wr a ++ " " ++ "and" ++ " " ++ wr b ++ ")"
  | .dis a b => "(" ++ wr a ++ " " ++ "or" ++ " " ++ wr b ++ ")"
/-- numbers that are not great -/
def Bd (K : Nat) : Sen → Prop
  | .least w c => (∀ x ∈ w, x.natAbs ≤ K) ∧ c.natAbs ≤ K
  | .rest w m r => (∀ x ∈ w, x.natAbs ≤ K) ∧ m.natAbs ≤ K ∧ r.natAbs ≤ K
  | .neg a => Bd K a
  | .con a b => Bd K a ∧ Bd K b
  | .dis a b => Bd K a ∧ Bd K b
def sz : Sen → Nat
  | .least _ _ => 1
  | .rest _ _ _ => 1
  | .neg a => sz a + 1
  | .con a b => sz a + sz b + 1
  | .dis a b => sz a + sz b + 1
theorem sz_pos : ∀ s : Sen, 1 ≤ sz s
  | .least _ _ => Nat.le_refl _
  | .rest _ _ _ => Nat.le_refl _
  | .neg a => by unfold sz; omega
  | .con a b => by unfold sz; omega
  | .dis a b => by unfold sz; omega
theorem join_len {K : Nat} {y : Str} : ∀ (ws : List Str), (∀ x ∈ ws, x.length ≤ K) → (Str.join y ws).length ≤ ws.length * (K + y.length)
  | [], _ => by simp [Str.join, Str.empty, Str.length]
  | [x], h => by
    have := h x (by simp)
    simp [Str.join]; omega
  | x :: x2 :: xs, h => by
    have h1 := h x (by simp)
    have ih := join_len (K := K) (y := y) (x2 :: xs) fun z hz => h z (by simp [hz])
    unfold Str.join
    rw [len_app, len_app, List.length_cons, Nat.succ_mul]
    omega
theorem lit_len (s : String) : (Str.ofString s).length = s.toList.length := by rw [len_tl, TL.tl_ofString, List.length_map]
theorem wj_len {K : Nat} {w : List Int} (hn : w.length ≤ 3) (h : ∀ x ∈ w, x.natAbs ≤ K) : (Str.join "," (w.map sI)).length ≤ 3 * (K + 3) := by
  have := join_len (K := K + 2) (y := ",") (w.map sI) fun z hz => by
    obtain ⟨x, hx, rfl⟩ := List.mem_map.mp hz
    have := sI_len x
    have := h x hx
    omega
  rw [List.length_map, lit_len] at this
  have e : (",".toList.length) = 1 := rfl
  rw [e] at this
  have h2 : w.length * (K + 2 + 1) ≤ 3 * (K + 3) := Nat.mul_le_mul_right _ hn
  omega
theorem wr_len {n K : Nat} (hn : n ≤ 3) : ∀ {s : Sen}, Val n s → Bd K s → (wr s).length ≤ sz s * (5 * K + 30)
  | .least w c, v, h => by
    have h1 := wj_len (K := K) (w := w) (by have : w.length = n := v; omega) h.1
    have h2 := sI_len c
    have h3 : ("least" : Str).length = 5 := lit_len "least"
    have h4 : (" " : Str).length = 1 := lit_len " "
    unfold wr sz
    simp only [Str.join, len_app, h3, h4]
    have := h.2
    omega
  | .rest w m r, v, h => by
    have h1 := wj_len (K := K) (w := w) (by have : w.length = n := v.1; omega) h.1
    have h2 := sI_len m
    have h5 := sI_len r
    have h3 : ("rest" : Str).length = 4 := lit_len "rest"
    have h4 : (" " : Str).length = 1 := lit_len " "
    unfold wr sz
    simp only [Str.join, len_app, h3, h4]
    have := h.2
    omega
  | .neg a, v, h => by
    have ih := wr_len hn (s := a) v h
    have h3 : ("not " : Str).length = 4 := lit_len "not "
    unfold wr sz
    rw [len_app, h3, Nat.succ_mul]
    omega
  | .con a b, v, h => by
    have ih := wr_len hn v.1 h.1
    have ih2 := wr_len hn v.2 h.2
    have h3 : ("(" : Str).length = 1 := lit_len "("
    have h4 : (" " : Str).length = 1 := lit_len " "
    have h5 : ("and" : Str).length = 3 := lit_len "and"
    have h6 : (")" : Str).length = 1 := lit_len ")"
    unfold wr sz
    generalize hX : 5 * K + 30 = X at *
    have e : (sz a + sz b + 1) * X = sz a * X + sz b * X + X := by rw [Nat.succ_mul, Nat.add_mul]
    rw [e]
    simp only [len_app, h3, h4, h5, h6]
    omega
  | .dis a b, v, h => by
    have ih := wr_len hn v.1 h.1
    have ih2 := wr_len hn v.2 h.2
    have h3 : ("(" : Str).length = 1 := lit_len "("
    have h4 : (" " : Str).length = 1 := lit_len " "
    have h5 : ("or" : Str).length = 2 := lit_len "or"
    have h6 : (")" : Str).length = 1 := lit_len ")"
    unfold wr sz
    generalize hX : 5 * K + 30 = X at *
    have e : (sz a + sz b + 1) * X = sz a * X + sz b * X + X := by rw [Nat.succ_mul, Nat.add_mul]
    rw [e]
    simp only [len_app, h3, h4, h5, h6]
    omega
theorem log_ok {i : Int} (h : i.natAbs ≤ 100000) : i.natAbs.log2 < 1920 := by
  by_cases h0 : i.natAbs = 0
  · rw [h0]; decide
  · exact (Nat.log2_lt h0).mpr (Nat.lt_of_le_of_lt h (by decide +kernel))
theorem join_l {a : Str} {ys : List Str} {M : Sto} (h : (ys.map (·.length)).sum + ys.length * a.length ≤ 16777216) : fJoin (.str a) [.lst (ys.map D.str)] M = .ok (.str (Str.join a ys)) M := by
  rw [join_lst h, TL.join_eq]
/-- the numbers' texts -/
theorem nums_ev {g : Nat} {Γ : DEnv} {M : Sto} {w : List Int} (hg : g < Γ.length) (h : ∀ x ∈ w, x.natAbs ≤ 100000) : lcL (mGN g) mYes (mB fStr (mCons (mVar g) mNil)) kT Γ (il w) M = .ok ((w.map sI).map D.str) M := by
  have := lc_map (g := mGN g) (t := mYes) (e := mB fStr (mCons (mVar g) mNil)) (Γ := Γ) (M := M) (c := D.int) (r := fun a => D.str (sI a)) w fun a ha => ⟨Γ.set g (some (.int a)), by simp, by simp, by
    have e := str_int (M := M) (log_ok (h a ha))
    simp [hg, e, sI]⟩
  unfold il
  rw [this, List.map_map]
  rfl
end K83

namespace K83
open PySem DL
open TL (tl)
abbrev NT : List (Str × Int) := [("least", 2), ("rest", 3)]
theorem nt_least : tabGet NT "least" = some 2 := by decide +kernel
theorem nt_rest : tabGet NT "rest" = some 3 := by decide +kernel
theorem nt_not : tabGet NT "not" = none := by decide +kernel
theorem nt_and : tabGet NT "and" = none := by decide +kernel
theorem nt_or : tabGet NT "or" = none := by decide +kernel
theorem empty_app (x : Str) : Str.empty ++ x = x := str_ext (by rw [tl_app]; rfl)
theorem app_assoc (x y z : Str) : (x ++ y) ++ z = x ++ (y ++ z) := str_ext (by simp [tl_app])
/-- an f-string of seven parts -/
theorem fstr7 {Γ : DEnv} {M : Sto} {ma mb : ME} {w x y : Str} {mw : ME} (ha : ma Γ M = .ok (.str x) M) (hb : mb Γ M = .ok (.str y) M) (hw : mw Γ M = .ok (.str w) M) (hl : ("(" ++ x ++ " " ++ w ++ " " ++ y ++ ")" : Str).length ≤ 16777216) :
    mFstr [mC (.str "("), mFv ma, mC (.str " "), mFv mw, mC (.str " "), mFv mb, mC (.str ")")] Γ M = .ok (.str ("(" ++ x ++ " " ++ w ++ " " ++ y ++ ")")) M := by
  simp only [len_app] at hl
  have l1 : x.length ≤ 16777216 := by omega
  have l2 : y.length ≤ 16777216 := by omega
  have l3 : w.length ≤ 16777216 := by omega
  simp only [e_fstr, js_cons, js_nil, e_c, e_fv, ha, hb, hw, Res.bind_ok, jsT_str, fvT_str, empty_app, len_app, if_pos l1, if_pos l2, if_pos l3]
  rw [if_pos (by omega), if_pos (by omega), if_pos (by omega), if_pos (by omega), if_pos (by omega), if_pos (by omega), if_pos (by omega)]
theorem jsum3 {a b c : Str} {k : Nat} (h : (Str.join " " [a, b, c]).length ≤ k) : (([a, b, c].map (·.length)).sum + 2 ≤ k) := by
  have h4 : (" " : Str).length = 1 := lit_len " "
  simp only [Str.join, len_app, h4] at h
  simp
  omega
theorem join_sum {y : Str} : ∀ ws : List Str, (ws.map (·.length)).sum ≤ (Str.join y ws).length
  | [] => by simp [Str.join]
  | [x] => by simp [Str.join]
  | x :: x2 :: xs => by
    have ih := join_sum (y := y) (x2 :: xs)
    unfold Str.join
    rw [len_app, len_app, List.map_cons, List.sum_cons]
    omega
theorem join_ok {ys : List Str} {a : Str} {M : Sto} (ha : a.length = 1) (hn : ys.length ≤ 10) (h : (Str.join a ys).length ≤ 16777000) : fJoin (.str a) [.lst (ys.map D.str)] M = .ok (.str (Str.join a ys)) M :=
  join_l (by have := join_sum (y := a) ys; rw [ha]; omega)
theorem sp_len : (" " : Str).length = 1 := lit_len " "
theorem cm_len : ("," : Str).length = 1 := lit_len ","
theorem show_ev {n K : Nat} {M : Sto} (hn : n ≤ 3) (hK : K ≤ 100000) : ∀ (s : Sen) (L : Nat), Val n s → Bd K s → dep s + 2 ≤ L → sz s * (5 * K + 30) ≤ 16000000 → S_show_sentence L [enc s] M = .ok (.str (wr s)) M
  | .least w c, L, v, h, hL, hz => by
    obtain ⟨k, rfl⟩ : ∃ k, L = k + 2 := ⟨L - 2, by omega⟩
    rw [S_show_sentence_eq, def_ap]
    have hw : w.length = n := v
    have hlen := wr_len hn (K := K) (s := .least w c) v h
    have hj := wj_len (K := K) (w := w) (by omega) h.1
    have e1 := fun (Γ : DEnv) (hΓ : 7 < Γ.length) => nums_ev (g := 7) (Γ := Γ) (M := M) (w := w) hΓ fun x hx => Nat.le_trans (h.1 x hx) hK
    have e2 := fun (Γ : DEnv) (hΓ : 8 < Γ.length) => nums_ev (g := 8) (Γ := Γ) (M := M) (w := [c]) hΓ fun x hx => by rw [List.mem_singleton.mp hx]; exact Nat.le_trans h.2 hK
    simp only [il_cons, il_nil, List.map_cons, List.map_nil] at e2
    have j1 := join_ok (M := M) (ys := w.map sI) cm_len (by rw [List.length_map]; omega) (by omega)
    have j2 := join_ok (M := M) (ys := ["least", Str.join "," (w.map sI), sI c]) sp_len (by simp) (by unfold wr at hlen; omega)
    simp only [List.map_cons, List.map_nil] at j2
    simp only [List.map_map] at j1
    simp [B_show_sentence, enc, nt_least, e1, e2, j1, add_fit, j2, wr]
  | .rest w m r, L, v, h, hL, hz => by
    obtain ⟨k, rfl⟩ : ∃ k, L = k + 2 := ⟨L - 2, by omega⟩
    rw [S_show_sentence_eq, def_ap]
    have hw : w.length = n := v.1
    have hlen := wr_len hn (K := K) (s := .rest w m r) v h
    have hj := wj_len (K := K) (w := w) (by omega) h.1
    have e1 := fun (Γ : DEnv) (hΓ : 7 < Γ.length) => nums_ev (g := 7) (Γ := Γ) (M := M) (w := w) hΓ fun x hx => Nat.le_trans (h.1 x hx) hK
    have e2 := fun (Γ : DEnv) (hΓ : 8 < Γ.length) => nums_ev (g := 8) (Γ := Γ) (M := M) (w := [m, r]) hΓ fun x hx => by
      simp only [List.mem_cons, List.not_mem_nil, or_false] at hx
      rcases hx with rfl | rfl
      · exact Nat.le_trans h.2.1 hK
      · exact Nat.le_trans h.2.2 hK
    simp only [il_cons, il_nil, List.map_cons, List.map_nil] at e2
    have j1 := join_ok (M := M) (ys := w.map sI) cm_len (by rw [List.length_map]; omega) (by omega)
    have j2 := join_ok (M := M) (ys := ["rest", Str.join "," (w.map sI), sI m, sI r]) sp_len (by simp) (by unfold wr at hlen; omega)
    simp only [List.map_cons, List.map_nil] at j2
    simp only [List.map_map] at j1
    simp [B_show_sentence, enc, nt_rest, e1, e2, j1, add_fit, j2, wr]
  | .neg a, L, v, h, hL, hz => by
    obtain ⟨k, rfl⟩ : ∃ k, L = k + 2 := ⟨L - 2, by omega⟩
    rw [S_show_sentence_eq, def_ap]
    have hlen := wr_len hn (K := K) (s := .neg a) v h
    have ih := show_ev (M := M) hn hK a (k + 1) v h (by unfold dep at hL; omega) (by unfold sz at hz; rw [Nat.succ_mul] at hz; omega)
    have h3 : ("not " : Str).length = 4 := lit_len "not "
    unfold wr at hlen
    rw [len_app, h3] at hlen
    have l1 : 4 + (wr a).length ≤ 16777216 := by omega
    simp [B_show_sentence, enc, nt_not, eq_s, ok_not, ih, wr, fAdd, h3, l1]
  | .con a b, L, v, h, hL, hz => by
    obtain ⟨k, rfl⟩ : ∃ k, L = k + 2 := ⟨L - 2, by omega⟩
    rw [S_show_sentence_eq, def_ap]
    have hlen := wr_len hn (K := K) (s := .con a b) v h
    have hs : sz a * (5 * K + 30) ≤ 16000000 ∧ sz b * (5 * K + 30) ≤ 16000000 := by
      unfold sz at hz
      rw [Nat.succ_mul, Nat.add_mul] at hz
      omega
    have ih := show_ev (M := M) hn hK a (k + 1) v.1 h.1 (by unfold dep at hL; omega) hs.1
    have ih2 := show_ev (M := M) hn hK b (k + 1) v.2 h.2 (by unfold dep at hL; omega) hs.2
    have f7 := fstr7 (Γ := [some (enc (.con a b)), some (.str "and"), some (.lst [enc a, enc b]), none, none, some (enc a), some (enc b), none, none]) (M := M) (ma := mCall 1 0 (S_show_sentence (k + 1)) gd_show_sentence_1 (mCons (mVar 5) mNil) mNil) (mb := mCall 1 0 (S_show_sentence (k + 1)) gd_show_sentence_1 (mCons (mVar 6) mNil) mNil) (mw := mVar 1) (x := wr a) (w := "and") (y := wr b) (by simp [ih]) (by simp [ih2]) (by simp) (by unfold wr at hlen; omega)
    simp only [enc] at f7
    simp [-e_fstr, B_show_sentence, enc, nt_and, eq_s, ok_not, ok_and, f7, wr]
  | .dis a b, L, v, h, hL, hz => by
    obtain ⟨k, rfl⟩ : ∃ k, L = k + 2 := ⟨L - 2, by omega⟩
    rw [S_show_sentence_eq, def_ap]
    have hlen := wr_len hn (K := K) (s := .dis a b) v h
    have hs : sz a * (5 * K + 30) ≤ 16000000 ∧ sz b * (5 * K + 30) ≤ 16000000 := by
      unfold sz at hz
      rw [Nat.succ_mul, Nat.add_mul] at hz
      omega
    have ih := show_ev (M := M) hn hK a (k + 1) v.1 h.1 (by unfold dep at hL; omega) hs.1
    have ih2 := show_ev (M := M) hn hK b (k + 1) v.2 h.2 (by unfold dep at hL; omega) hs.2
    have f7 := fstr7 (Γ := [some (enc (.dis a b)), some (.str "or"), some (.lst [enc a, enc b]), none, none, some (enc a), some (enc b), none, none]) (M := M) (ma := mCall 1 0 (S_show_sentence (k + 1)) gd_show_sentence_1 (mCons (mVar 5) mNil) mNil) (mb := mCall 1 0 (S_show_sentence (k + 1)) gd_show_sentence_1 (mCons (mVar 6) mNil) mNil) (mw := mVar 1) (x := wr a) (w := "or") (y := wr b) (by simp [ih]) (by simp [ih2]) (by simp) (by unfold wr at hlen; omega)
    simp only [enc] at f7
    simp [-e_fstr, B_show_sentence, enc, nt_or, eq_s, ok_not, ok_or, f7, wr]
end K83

namespace K83
open PySem DL
open TL (tl)
theorem for_step {g : MG} {body : MS} {d : D} {ds : List D} {Γ Γ1 Γ2 : DEnv} {M M1 M2 : Sto} (hg : g d Γ M = .ok Γ1 M1) (hb : body Γ1 M1 = .nx Γ2 M2) : forL g body kT (d :: ds) Γ M = forL g body kT ds Γ2 M2 := by
  show (if kT M = true then (g d Γ M).toSG _ else _) = _
  rw [if_pos (by rfl), hg]
  simp only [toSG_ok, hb]
theorem for_nil {g : MG} {body : MS} {Γ : DEnv} {M : Sto} : forL g body kT [] Γ M = .nx Γ M := rfl
theorem add_s {x y : Str} {M : Sto} (h : x.length + y.length ≤ 16777216) : fAdd (.str x) (.str y) M = .ok (.str (x ++ y)) M := by
  unfold fAdd
  exact if_pos h
def app (t : Str) (ws : List Int) : Str := ws.foldl (fun t x => t ++ " " ++ sI x) t
theorem app_le : ∀ (ws : List Int) (t : Str), t.length ≤ (app t ws).length
  | [], t => Nat.le_refl _
  | x :: ws, t => by
    have ih := app_le ws (t ++ " " ++ sI x)
    unfold app at ih ⊢
    rw [List.foldl_cons]
    rw [len_app, len_app] at ih
    omega
theorem str_sI {x : Int} {M : Sto} (h : x.natAbs ≤ 100000) : fStr [.int x] M = .ok (.str (sI x)) M := str_int (log_ok h)
abbrev TX : MS := (mAsg (mBin fAdd (mBin fAdd (mVar 2) (mC (.str " "))) (mB fStr (mCons (mVar 3) (mNil)))) (mGN 2))
theorem text_loop {a0 a1 : Option D} {M : Sto} : ∀ (ws : List Int) (t : Str) (b : Option D), (∀ x ∈ ws, x.natAbs ≤ 100000) → (app t ws).length ≤ 16777216 →
    ∃ b', forL (mGN 3) TX kT (il ws) [a0, a1, some (.str t), b, none, none] M = .nx [a0, a1, some (.str (app t ws)), b', none, none] M
  | [], t, b, _, _ => ⟨b, rfl⟩
  | x :: ws, t, b, h, hl => by
    have s1 := str_sI (M := M) (h x (by simp))
    have hle := app_le ws (t ++ " " ++ sI x)
    have hl' : (app (t ++ " " ++ sI x) ws).length ≤ 16777216 := hl
    rw [len_app, len_app, sp_len] at hle
    have a1' := add_s (x := t) (y := " ") (M := M) (by rw [sp_len]; omega)
    have a2' := add_s (x := t ++ " ") (y := sI x) (M := M) (by rw [len_app, sp_len]; omega)
    obtain ⟨b', ih⟩ := text_loop (a0 := a0) (a1 := a1) (M := M) ws (t ++ " " ++ sI x) (some (.int x)) (fun y hy => h y (by simp [hy])) hl'
    refine ⟨b', ?_⟩
    rw [il_cons, for_step (Γ1 := [a0, a1, some (.str t), some (.int x), none, none]) (M1 := M) (Γ2 := [a0, a1, some (.str (t ++ " " ++ sI x)), some (.int x), none, none]) (M2 := M) (by simp) (by simp [a1', s1, a2'])]
    exact ih
theorem cut2a {x y z : D} : cutD [x, y, z] (some 2) none = [z] := by rfl
theorem cut2b {x y z u : D} : cutD [x, y, z, u] (some 2) none = [z, u] := by rfl
theorem wr_least {w : List Int} {c : Int} : app ("least" ++ " " ++ Str.join "," (w.map sI)) [c] = wr (.least w c) := by
  simp only [app, List.foldl_cons, List.foldl_nil, wr, Str.join, app_assoc]
theorem wr_rest {w : List Int} {m r : Int} : app ("rest" ++ " " ++ Str.join "," (w.map sI)) [m, r] = wr (.rest w m r) := by
  simp only [app, List.foldl_cons, List.foldl_nil, wr, Str.join, app_assoc]
theorem written_ev {n K : Nat} {M : Sto} (hn : n ≤ 3) (hK : K ≤ 100000) : ∀ (s : Sen) (L : Nat), Val n s → Bd K s → dep s + 2 ≤ L → sz s * (5 * K + 30) ≤ 16000000 → S__law_written L [enc s] M = .ok (.str (wr s)) M
  | .least w c, L, v, h, hL, hz => by
    obtain ⟨k, rfl⟩ : ∃ k, L = k + 2 := ⟨L - 2, by omega⟩
    rw [S__law_written_eq, def_ap]
    have hw : w.length = n := v
    have hlen := wr_len hn (K := K) (s := .least w c) v h
    have hj := wj_len (K := K) (w := w) (by omega) h.1
    have e1 := fun (Γ : DEnv) (hΓ : 5 < Γ.length) => nums_ev (g := 5) (Γ := Γ) (M := M) (w := w) hΓ fun x hx => Nat.le_trans (h.1 x hx) hK
    have j1 := join_ok (M := M) (ys := w.map sI) cm_len (by rw [List.length_map]; omega) (by omega)
    simp only [List.map_map] at j1
    have l5 : ("least" : Str).length = 5 := lit_len "least"
    have a1 := add_s (x := "least") (y := " ") (M := M) (by rw [l5, sp_len]; omega)
    have a2 := add_s (x := "least" ++ " ") (y := Str.join "," (w.map sI)) (M := M) (by rw [len_app, l5, sp_len]; omega)
    obtain ⟨b', e2⟩ := text_loop (a0 := some (enc (.least w c))) (a1 := none) (M := M) [c] ("least" ++ " " ++ Str.join "," (w.map sI)) none (fun x hx => by rw [List.mem_singleton.mp hx]; exact Nat.le_trans h.2 hK) (by rw [wr_least]; omega)
    rw [wr_least] at e2
    simp only [enc, il_cons, il_nil] at e2
    simp [B__law_written, enc, eq_s, ok_not, ok_least, in2, cut2a, cut2b, e1, j1, a1, a2, e2]
  | .rest w m r, L, v, h, hL, hz => by
    obtain ⟨k, rfl⟩ : ∃ k, L = k + 2 := ⟨L - 2, by omega⟩
    rw [S__law_written_eq, def_ap]
    have hw : w.length = n := v.1
    have hlen := wr_len hn (K := K) (s := .rest w m r) v h
    have hj := wj_len (K := K) (w := w) (by omega) h.1
    have e1 := fun (Γ : DEnv) (hΓ : 5 < Γ.length) => nums_ev (g := 5) (Γ := Γ) (M := M) (w := w) hΓ fun x hx => Nat.le_trans (h.1 x hx) hK
    have j1 := join_ok (M := M) (ys := w.map sI) cm_len (by rw [List.length_map]; omega) (by omega)
    simp only [List.map_map] at j1
    have l5 : ("rest" : Str).length = 4 := lit_len "rest"
    have a1 := add_s (x := "rest") (y := " ") (M := M) (by rw [l5, sp_len]; omega)
    have a2 := add_s (x := "rest" ++ " ") (y := Str.join "," (w.map sI)) (M := M) (by rw [len_app, l5, sp_len]; omega)
    obtain ⟨b', e2⟩ := text_loop (a0 := some (enc (.rest w m r))) (a1 := none) (M := M) [m, r] ("rest" ++ " " ++ Str.join "," (w.map sI)) none (fun x hx => by
      simp only [List.mem_cons, List.not_mem_nil, or_false] at hx
      rcases hx with rfl | rfl
      · exact Nat.le_trans h.2.1 hK
      · exact Nat.le_trans h.2.2 hK) (by rw [wr_rest]; omega)
    rw [wr_rest] at e2
    simp only [enc, il_cons, il_nil] at e2
    simp [B__law_written, enc, eq_s, ok_not, ok_rest, in2, cut2a, cut2b, e1, j1, a1, a2, e2]
  | .neg a, L, v, h, hL, hz => by
    obtain ⟨k, rfl⟩ : ∃ k, L = k + 2 := ⟨L - 2, by omega⟩
    rw [S__law_written_eq, def_ap]
    have hlen := wr_len hn (K := K) (s := .neg a) v h
    have ih := written_ev (M := M) hn hK a (k + 1) v h (by unfold dep at hL; omega) (by unfold sz at hz; rw [Nat.succ_mul] at hz; omega)
    have h3 : ("not " : Str).length = 4 := lit_len "not "
    unfold wr at hlen
    rw [len_app, h3] at hlen
    have a1 := add_s (x := "not ") (y := wr a) (M := M) (by rw [h3]; omega)
    simp [B__law_written, enc, eq_s, ok_not, ih, a1, wr]
  | .con a b, L, v, h, hL, hz => by
    obtain ⟨k, rfl⟩ : ∃ k, L = k + 2 := ⟨L - 2, by omega⟩
    rw [S__law_written_eq, def_ap]
    have hlen := wr_len hn (K := K) (s := .con a b) v h
    have hs : sz a * (5 * K + 30) ≤ 16000000 ∧ sz b * (5 * K + 30) ≤ 16000000 := by
      unfold sz at hz
      rw [Nat.succ_mul, Nat.add_mul] at hz
      omega
    have ih := written_ev (M := M) hn hK a (k + 1) v.1 h.1 (by unfold dep at hL; omega) hs.1
    have ih2 := written_ev (M := M) hn hK b (k + 1) v.2 h.2 (by unfold dep at hL; omega) hs.2
    have lw : ("and" : Str).length = 3 := lit_len "and"
    have lo : ("(" : Str).length = 1 := lit_len "("
    have lc : (")" : Str).length = 1 := lit_len ")"
    unfold wr at hlen
    simp only [len_app, lw, lo, lc, sp_len] at hlen
    have hlc : ∀ (Γ : DEnv), Γ.length = 6 → lcL (mGN 4) mYes (mCall 1 0 (S__law_written (k + 1)) gd__law_written_1 (mCons (mVar 4) mNil) mNil) kT Γ [enc a, enc b] M = .ok [.str (wr a), .str (wr b)] M := fun Γ hΓ => by
      rw [lc_turn (y := .str (wr a)) (M3 := M) (M2 := M) (M1 := M) (Γ1 := Γ.set 4 (some (enc a))) (by simp) (by simp) (by simp [hΓ, ih]), lc_turn (y := .str (wr b)) (M3 := M) (M2 := M) (M1 := M) (Γ1 := Γ.set 4 (some (enc b))) (by simp) (by simp) (by simp [hΓ, ih2])]
      simp
    have a1 := add_s (x := " ") (y := "and") (M := M) (by rw [sp_len, lw]; omega)
    have a2 := add_s (x := " " ++ "and") (y := " ") (M := M) (by rw [len_app, sp_len, lw]; omega)
    have j1 := join_l (M := M) (a := " " ++ "and" ++ " ") (ys := [wr a, wr b]) (by simp [len_app, sp_len, lw]; omega)
    simp only [List.map_cons, List.map_nil] at j1
    have a3 := add_s (x := "(") (y := Str.join (" " ++ "and" ++ " ") [wr a, wr b]) (M := M) (by simp only [Str.join, len_app, lo, lw, sp_len]; omega)
    have a4 := add_s (x := "(" ++ Str.join (" " ++ "and" ++ " ") [wr a, wr b]) (y := ")") (M := M) (by simp only [Str.join, len_app, lo, lw, lc, sp_len]; omega)
    have e : "(" ++ Str.join (" " ++ "and" ++ " ") [wr a, wr b] ++ ")" = wr (.con a b) := by simp only [Str.join, wr, app_assoc]
    rw [e] at a4
    simp [B__law_written, enc, eq_s, ok_not, ok_and, in2, hlc, a1, a2, j1, a3, a4]
  | .dis a b, L, v, h, hL, hz => by
    obtain ⟨k, rfl⟩ : ∃ k, L = k + 2 := ⟨L - 2, by omega⟩
    rw [S__law_written_eq, def_ap]
    have hlen := wr_len hn (K := K) (s := .dis a b) v h
    have hs : sz a * (5 * K + 30) ≤ 16000000 ∧ sz b * (5 * K + 30) ≤ 16000000 := by
      unfold sz at hz
      rw [Nat.succ_mul, Nat.add_mul] at hz
      omega
    have ih := written_ev (M := M) hn hK a (k + 1) v.1 h.1 (by unfold dep at hL; omega) hs.1
    have ih2 := written_ev (M := M) hn hK b (k + 1) v.2 h.2 (by unfold dep at hL; omega) hs.2
    have lw : ("or" : Str).length = 2 := lit_len "or"
    have lo : ("(" : Str).length = 1 := lit_len "("
    have lc : (")" : Str).length = 1 := lit_len ")"
    unfold wr at hlen
    simp only [len_app, lw, lo, lc, sp_len] at hlen
    have hlc : ∀ (Γ : DEnv), Γ.length = 6 → lcL (mGN 4) mYes (mCall 1 0 (S__law_written (k + 1)) gd__law_written_1 (mCons (mVar 4) mNil) mNil) kT Γ [enc a, enc b] M = .ok [.str (wr a), .str (wr b)] M := fun Γ hΓ => by
      rw [lc_turn (y := .str (wr a)) (M3 := M) (M2 := M) (M1 := M) (Γ1 := Γ.set 4 (some (enc a))) (by simp) (by simp) (by simp [hΓ, ih]), lc_turn (y := .str (wr b)) (M3 := M) (M2 := M) (M1 := M) (Γ1 := Γ.set 4 (some (enc b))) (by simp) (by simp) (by simp [hΓ, ih2])]
      simp
    have a1 := add_s (x := " ") (y := "or") (M := M) (by rw [sp_len, lw]; omega)
    have a2 := add_s (x := " " ++ "or") (y := " ") (M := M) (by rw [len_app, sp_len, lw]; omega)
    have j1 := join_l (M := M) (a := " " ++ "or" ++ " ") (ys := [wr a, wr b]) (by simp [len_app, sp_len, lw]; omega)
    simp only [List.map_cons, List.map_nil] at j1
    have a3 := add_s (x := "(") (y := Str.join (" " ++ "or" ++ " ") [wr a, wr b]) (M := M) (by simp only [Str.join, len_app, lo, lw, sp_len]; omega)
    have a4 := add_s (x := "(" ++ Str.join (" " ++ "or" ++ " ") [wr a, wr b]) (y := ")") (M := M) (by simp only [Str.join, len_app, lo, lw, lc, sp_len]; omega)
    have e : "(" ++ Str.join (" " ++ "or" ++ " ") [wr a, wr b] ++ ")" = wr (.dis a b) := by simp only [Str.join, wr, app_assoc]
    rw [e] at a4
    simp [B__law_written, enc, eq_s, ok_not, ok_or, in2, hlc, a1, a2, j1, a3, a4]
end K83

namespace K83
open PySem DL
open TL (tl)
open L2 (cutS)
/-! ### the signs of a written sentence -/
def okL (l : List Nat) : Prop := ∀ c ∈ l, c < 1114112
theorem ok_of {x : Str} (h : okL (tl x)) : PyData.strOk x = true := by
  unfold PyData.strOk
  rw [← Array.all_toList, List.all_eq_true]
  intro c hc
  exact decide_eq_true (h c hc)
theorem okL_app {a b : List Nat} (h : okL a) (k : okL b) : okL (a ++ b) := fun c hc => by
  rcases List.mem_append.mp hc with hc | hc
  · exact h c hc
  · exact k c hc
theorem okL_cut {z : Str} {lo hi : Option Int} (h : okL (tl z)) : okL (tl (cutS z lo hi)) := fun c hc => by
  unfold cutS at hc
  exact h c (List.mem_of_mem_drop (List.mem_of_mem_take hc))
theorem fin_int (P : Int → Prop) (lo : Int) (n : Nat) (h : ∀ k : Fin n, P (lo + (k.val : Int))) : ∀ x : Int, lo ≤ x → x < lo + (n : Int) → P x := fun x h1 h2 => by
  have := h ⟨(x - lo).toNat, by omega⟩
  have e : lo + (((x - lo).toNat : Nat) : Int) = x := by omega
  simp only [e] at this
  exact this
def NumL (l : List Nat) : Prop := l ≠ [] ∧ ∀ c ∈ l, 45 ≤ c ∧ c ≤ 57 ∧ c ≠ 47
instance (l : List Nat) : Decidable (NumL l) := inferInstanceAs (Decidable (_ ∧ _))
theorem num_L {x : Int} (h : -5 ≤ x) (h2 : x ≤ 5) : NumL (tl (sI x)) := by
  refine fin_int (fun x => NumL (tl (sI x))) (-5) 11 ?_ x h (by omega)
  decide +kernel
theorem sI_inj {x y : Int} (h : -5 ≤ x) (h2 : x ≤ 5) (k : -5 ≤ y) (k2 : y ≤ 5) (e : sI x = sI y) : x = y := by
  refine fin_int (fun x => ∀ y, -5 ≤ y → y ≤ 5 → sI x = sI y → x = y) (-5) 11 ?_ x h (by omega) y k k2 e
  intro i y k k2
  refine fin_int (fun y => sI (-5 + (i.val : Int)) = sI y → -5 + (i.val : Int) = y) (-5) 11 ?_ y k (by omega)
  revert i
  decide +kernel
theorem NumL.free {l : List Nat} (h : NumL l) {c : Nat} (hc : c < 45 ∨ c = 47 ∨ 57 < c) : c ∉ l := fun hm => by
  have := h.2 c hm
  omega
theorem NumL.ok {l : List Nat} (h : NumL l) : okL l := fun c hc => by
  have := h.2 c hc
  omega
theorem joinL_mem {S : List Nat} {c : Nat} : ∀ {ps : List (List Nat)}, c ∈ TL.joinL S ps → c ∈ S ∨ ∃ p ∈ ps, c ∈ p
  | [], h => by simp [TL.joinL] at h
  | [p], h => .inr ⟨p, by simp, by simpa [TL.joinL] using h⟩
  | p :: q :: ps, h => by
    have h : c ∈ p ++ (S ++ TL.joinL S (q :: ps)) := by simpa [TL.joinL] using h
    rcases List.mem_append.mp h with h | h
    · exact .inr ⟨p, by simp, h⟩
    · rcases List.mem_append.mp h with h | h
      · exact .inl h
      · rcases joinL_mem h with h | ⟨r, hr, h⟩
        · exact .inl h
        · exact .inr ⟨r, by simp [hr], h⟩
/-- the weights' text -/
theorem wj_tl {w : List Int} : tl (Str.join "," (w.map sI)) = TL.joinL [44] (w.map fun x => tl (sI x)) := by
  rw [TL.tl_join, List.map_map]
  rfl
def WL (l : List Nat) : Prop := (∃ c r, l = c :: r ∧ c ≠ 97 ∧ c ≠ 111) ∧ ∀ c ∈ l, 44 ≤ c ∧ c ≤ 57
theorem wj_L {w : List Int} (h : w ≠ []) (hw : Wt3 w) : WL (tl (Str.join "," (w.map sI))) := by
  rw [wj_tl]
  have hm : ∀ c ∈ TL.joinL [44] (w.map fun x => tl (sI x)), 44 ≤ c ∧ c ≤ 57 := fun c hc => by
    rcases joinL_mem hc with hc | ⟨p, hp, hc⟩
    · simp at hc; omega
    · obtain ⟨x, hx, rfl⟩ := List.mem_map.mp hp
      have := hw x hx
      have := (num_L (x := x) (by omega) (by omega)).2 c hc
      omega
  refine ⟨?_, hm⟩
  have hne : TL.joinL [44] (w.map fun x => tl (sI x)) ≠ [] := by
    cases w with
    | nil => exact absurd rfl h
    | cons x xs =>
      have hx := hw x (by simp)
      have := (num_L (x := x) (by omega) (by omega)).1
      cases xs with
      | nil => simpa [TL.joinL] using this
      | cons y ys =>
        intro e
        have e : tl (sI x) ++ ([44] ++ TL.joinL [44] ((y :: ys).map fun x => tl (sI x))) = [] := by simpa [TL.joinL] using e
        simp at e
  cases hl : TL.joinL [44] (w.map fun x => tl (sI x)) with
  | nil => exact absurd hl hne
  | cons c r => exact ⟨c, r, rfl, by have := hm c (by rw [hl]; simp); omega, by have := hm c (by rw [hl]; simp); omega⟩
/-! depth, and no joining word -/
def dep1 (c : Nat) : Int := if c = 40 then 1 else if c = 41 then -1 else 0
def run : Int → List Nat → Int
  | d, [] => d
  | d, c :: r => run (d + dep1 c) r
def good : Int → List Nat → Prop
  | _, [] => True
  | d, c :: r => (d + dep1 c = 0 → c = 32 → ∃ x r', r = x :: r' ∧ x ≠ 97 ∧ x ≠ 111) ∧ good (d + dep1 c) r
theorem run_app : ∀ (a b : List Nat) (d : Int), run d (a ++ b) = run (run d a) b
  | [], b, d => rfl
  | c :: a, b, d => run_app a b (d + dep1 c)
theorem good_app : ∀ (a b : List Nat) (d : Int), good d a → good (run d a) b → good d (a ++ b)
  | [], b, d, _, h => h
  | c :: a, b, d, h, k => ⟨fun h1 h2 => by
      obtain ⟨x, r', e, n1, n2⟩ := h.1 h1 h2
      exact ⟨x, r' ++ b, by rw [e]; rfl, n1, n2⟩, good_app a b _ h.2 k⟩
/-- signs with no bracket and no space -/
theorem calm_run : ∀ (l : List Nat) (d : Int), (∀ c ∈ l, c ≠ 40 ∧ c ≠ 41 ∧ c ≠ 32) → run d l = d ∧ good d l
  | [], d, _ => ⟨rfl, trivial⟩
  | c :: l, d, h => by
    have h1 := h c (by simp)
    have e : dep1 c = 0 := by unfold dep1; rw [if_neg h1.1, if_neg h1.2.1]
    have ih := calm_run l d fun x hx => h x (by simp [hx])
    unfold run good
    rw [e, Int.add_zero]
    exact ⟨ih.1, fun _ h2 => absurd h2 h1.2.2, ih.2⟩
/-- a space and what follows it -/
theorem sp_good {c : Nat} {r : List Nat} {d : Int} (h1 : c ≠ 97) (h2 : c ≠ 111) (h : good d (c :: r)) : good d (32 :: c :: r) := by
  have e : dep1 32 = 0 := rfl
  refine ⟨fun _ _ => ⟨c, r, rfl, h1, h2⟩, ?_⟩
  rw [e, Int.add_zero]
  exact h
theorem sp_run {d : Int} {r : List Nat} : run d (32 :: r) = run d r := by
  show run (d + dep1 32) r = run d r
  have e : dep1 32 = 0 := rfl
  rw [e, Int.add_zero]
theorem bal_tail {l : List Nat} {d : Int} (h : ∃ c r, l = c :: r ∧ c ≠ 97 ∧ c ≠ 111) (k : good d l) : good d (32 :: l) := by
  obtain ⟨c, r, rfl, h1, h2⟩ := h
  exact sp_good h1 h2 k
/-- brackets deep, anything goes -/
theorem deep_word {d : Int} {l : List Nat} (hd : 0 < d) (h : ∀ c ∈ l, c ≠ 40 ∧ c ≠ 41) : run d l = d ∧ good d l := by
  induction l with
  | nil => exact ⟨rfl, trivial⟩
  | cons c l ih =>
    have h1 := h c (by simp)
    have e : dep1 c = 0 := by unfold dep1; rw [if_neg h1.1, if_neg h1.2]
    have ih := ih fun x hx => h x (by simp [hx])
    unfold run good
    rw [e, Int.add_zero]
    exact ⟨ih.1, fun h2 _ => by omega, ih.2⟩
def HeadOk (l : List Nat) : Prop := ∃ c r, l = c :: r ∧ c ≠ 97 ∧ c ≠ 111
theorem tl_least : tl "least" = [108, 101, 97, 115, 116] := by decide +kernel
theorem tl_rest : tl "rest" = [114, 101, 115, 116] := by decide +kernel
theorem tl_not : tl "not " = [110, 111, 116, 32] := by decide +kernel
theorem tl_sp : tl " " = [32] := by decide +kernel
theorem tl_o : tl "(" = [40] := by decide +kernel
theorem tl_c : tl ")" = [41] := by decide +kernel
theorem tl_and : tl "and" = [97, 110, 100] := by decide +kernel
theorem tl_or : tl "or" = [111, 114] := by decide +kernel
theorem num_run {x : Int} (h : -5 ≤ x) (h2 : x ≤ 5) (d : Int) : run d (tl (sI x)) = d ∧ good d (tl (sI x)) ∧ HeadOk (tl (sI x)) ∧ okL (tl (sI x)) := by
  have hn := num_L h h2
  have hc := calm_run (tl (sI x)) d fun c hc => by have := hn.2 c hc; omega
  refine ⟨hc.1, hc.2, ?_, hn.ok⟩
  cases hl : tl (sI x) with
  | nil => exact absurd hl hn.1
  | cons c r => exact ⟨c, r, rfl, by have := hn.2 c (by rw [hl]; simp); omega, by have := hn.2 c (by rw [hl]; simp); omega⟩
theorem w_run {w : List Int} (h : w ≠ []) (hw : Wt3 w) (d : Int) : run d (tl (Str.join "," (w.map sI))) = d ∧ good d (tl (Str.join "," (w.map sI))) ∧ HeadOk (tl (Str.join "," (w.map sI))) ∧ okL (tl (Str.join "," (w.map sI))) := by
  have hn := wj_L h hw
  have hc := calm_run (tl (Str.join "," (w.map sI))) d fun c hc => by have := hn.2 c hc; omega
  exact ⟨hc.1, hc.2, hn.1, fun c hc => by have := hn.2 c hc; omega⟩
structure Seg (d : Int) (l : List Nat) : Prop where
  run : run d l = d
  good : good d l
  ok : okL l
theorem Seg.app {d : Int} {a b : List Nat} (x : Seg d a) (y : Seg d b) : Seg d (a ++ b) :=
  ⟨by rw [run_app, x.run, y.run], good_app _ _ _ x.good (by rw [x.run]; exact y.good), okL_app x.ok y.ok⟩
theorem Seg.sp {d : Int} {a : List Nat} (x : Seg d a) (h : HeadOk a) : Seg d (32 :: a) :=
  ⟨by rw [sp_run, x.run], bal_tail h x.good, okL_app (a := [32]) (fun c hc => by simp at hc; omega) x.ok⟩
theorem seg_num {x : Int} (h : -5 ≤ x) (h2 : x ≤ 5) (d : Int) : Seg d (tl (sI x)) := ⟨(num_run h h2 d).1, (num_run h h2 d).2.1, (num_run h h2 d).2.2.2⟩
theorem seg_w {w : List Int} (h : w ≠ []) (hw : Wt3 w) (d : Int) : Seg d (tl (Str.join "," (w.map sI))) := ⟨(w_run h hw d).1, (w_run h hw d).2.1, (w_run h hw d).2.2.2⟩
theorem seg_calm {l : List Nat} (d : Int) (h : ∀ c ∈ l, c ≠ 40 ∧ c ≠ 41 ∧ c ≠ 32 ∧ c < 1114112) : Seg d l :=
  have k := calm_run l d fun c hc => ⟨(h c hc).1, (h c hc).2.1, (h c hc).2.2.1⟩
  ⟨k.1, k.2, fun c hc => (h c hc).2.2.2⟩
theorem HeadOk.app {a b : List Nat} (h : HeadOk a) : HeadOk (a ++ b) := by
  obtain ⟨c, r, rfl, h1, h2⟩ := h
  exact ⟨c, r ++ b, rfl, h1, h2⟩
theorem seg_br {d : Int} {l : List Nat} (hd : 0 ≤ d) (h : Seg (d + 1) l) : Seg d ([40] ++ l ++ [41]) := by
  have e40 : dep1 40 = 1 := rfl
  have e41 : dep1 41 = -1 := rfl
  refine ⟨?_, ?_, okL_app (okL_app (fun c hc => by simp at hc; omega) h.ok) fun c hc => by simp at hc; omega⟩
  · rw [run_app, run_app]
    show run (run (d + dep1 40) l + dep1 41) [] = d
    rw [e40, h.run, e41]
    show d + 1 + -1 = d
    omega
  · refine good_app _ _ _ (good_app _ _ _ ⟨fun _ h => by simp at h, trivial⟩ ?_) ⟨fun _ h => by simp at h, trivial⟩
    show good (d + dep1 40) l
    rw [e40]
    exact h.good
theorem tl_leastw {w : List Int} {c : Int} : tl (wr (.least w c)) = [108, 101, 97, 115, 116] ++ (32 :: (tl (Str.join "," (w.map sI)) ++ (32 :: tl (sI c)))) := by
  unfold wr
  simp only [Str.join, tl_app, tl_sp, tl_least]
  simp [Str.join]
theorem tl_restw {w : List Int} {m r : Int} : tl (wr (.rest w m r)) = [114, 101, 115, 116] ++ (32 :: (tl (Str.join "," (w.map sI)) ++ (32 :: (tl (sI m) ++ (32 :: tl (sI r)))))) := by
  unfold wr
  simp only [Str.join, tl_app, tl_sp, tl_rest]
  simp [Str.join]
theorem wne {n : Nat} {w : List Int} (hn : 1 ≤ n) (h : w.length = n) : w ≠ [] := fun e => by subst e; simp at h; omega
theorem wr_seg {n : Nat} (hn : 1 ≤ n) : ∀ (s : Sen) (d : Int), 0 ≤ d → Small n s → Seg d (tl (wr s)) ∧ HeadOk (tl (wr s))
  | .least w c, d, hd, h => by
    rw [tl_leastw]
    have hw := wne hn h.1
    refine ⟨(seg_calm d (by decide)).app (((seg_w hw h.2.1 d).app ((seg_num (by have := h.2.2.1; omega) (by have := h.2.2.2; omega) d).sp (num_run (by have := h.2.2.1; omega) (by have := h.2.2.2; omega) d).2.2.1)).sp (w_run hw h.2.1 d).2.2.1.app), ⟨108, _, rfl, by omega, by omega⟩⟩
  | .rest w m r, d, hd, h => by
    rw [tl_restw]
    have hw := wne hn h.1
    obtain ⟨⟨m1, m2⟩, r1, r2⟩ := h.2.2
    refine ⟨(seg_calm d (by decide)).app (((seg_w hw h.2.1 d).app (((seg_num (by omega) (by omega) d).app ((seg_num (by omega) (by omega) d).sp (num_run (by omega) (by omega) d).2.2.1)).sp (num_run (by omega) (by omega) d).2.2.1.app)).sp (w_run hw h.2.1 d).2.2.1.app), ⟨114, _, rfl, by omega, by omega⟩⟩
  | .neg a, d, hd, h => by
    obtain ⟨s, k⟩ := wr_seg hn a d hd h
    unfold wr
    rw [tl_app, tl_not]
    exact ⟨(seg_calm (l := [110, 111, 116]) d (by decide)).app (s.sp k), ⟨110, _, rfl, by omega, by omega⟩⟩
  | .con a b, d, hd, h => by
    obtain ⟨s, k⟩ := wr_seg hn a (d + 1) (by omega) h.1
    obtain ⟨s', k'⟩ := wr_seg hn b (d + 1) (by omega) h.2
    unfold wr
    simp only [tl_app, tl_o, tl_c, tl_sp, tl_and]
    have sw : Seg (d + 1) ([32] ++ [97, 110, 100] ++ [32]) := ⟨(deep_word (by omega) (by decide)).1, (deep_word (by omega) (by decide)).2, by intro c hc; simp at hc; omega⟩
    have := seg_br hd ((s.app sw).app s')
    simp only [List.append_assoc] at this ⊢
    exact ⟨this, ⟨40, _, rfl, by omega, by omega⟩⟩
  | .dis a b, d, hd, h => by
    obtain ⟨s, k⟩ := wr_seg hn a (d + 1) (by omega) h.1
    obtain ⟨s', k'⟩ := wr_seg hn b (d + 1) (by omega) h.2
    unfold wr
    simp only [tl_app, tl_o, tl_c, tl_sp, tl_or]
    have sw : Seg (d + 1) ([32] ++ [111, 114] ++ [32]) := ⟨(deep_word (by omega) (by decide)).1, (deep_word (by omega) (by decide)).2, by intro c hc; simp at hc; omega⟩
    have := seg_br hd ((s.app sw).app s')
    simp only [List.append_assoc] at this ⊢
    exact ⟨this, ⟨40, _, rfl, by omega, by omega⟩⟩
end K83

namespace K83
open PySem DL
open TL (tl)
open L2 (cutS)
theorem flt (k : Nat) : ∀ n : Nat, (List.range n).filter (fun i => decide (i = k)) = if k < n then [k] else []
  | 0 => by simp
  | n + 1 => by
    rw [List.range_succ, List.filter_append, flt k n]
    by_cases h : k < n
    · rw [if_pos h, if_pos (by omega)]
      simp
      omega
    · rw [if_neg h]
      by_cases h2 : n = k
      · subst h2; simp
      · rw [if_neg (by omega)]
        simp [h2]
theorem ok_sI {x : Int} (h : -5 ≤ x) (h2 : x ≤ 5) : PyData.strOk (sI x) = true := ok_of (num_L h h2).ok
theorem number_in {L : Nat} {x lo hi : Int} {M : Sto} (hL : 2 ≤ L) (h1 : -5 ≤ lo) (h2 : lo ≤ x) (h3 : x ≤ hi) (h4 : hi ≤ 5) : S_number_in L [.str (sI x), .int lo, .int hi] M = .ok (.int x) M := by
  obtain ⟨k, rfl⟩ : ∃ k, L = k + 2 := ⟨L - 2, by omega⟩
  rw [S_number_in_eq, def_ap]
  have hup : DL.upTo lo (hi + 1) = (List.range (hi + 1 - lo).toNat).map fun i : Nat => D.int (lo + (i : Int)) := rfl
  have e : ∀ b : Option D, lcL (mGN 4) (mCmpT fEq (mB fStr (mCons (mVar 4) (mNil))) (mVar 0)) (mVar 4) kT [some (.str (sI x)), some (.int lo), some (.int hi), b, none] (DL.upTo lo (hi + 1)) M = .ok [.int x] M := fun b => by
    rw [hup, lc_filter (c := fun i : Nat => D.int (lo + (i : Int))) (r := fun i : Nat => D.int (lo + (i : Int))) (p := fun i => decide (i = (x - lo).toNat)) _ fun i hi' => ⟨[some (.str (sI x)), some (.int lo), some (.int hi), b, some (.int (lo + (i : Int)))], by simp, ?_, fun _ => by simp⟩]
    · rw [flt, if_pos (by omega)]
      have : lo + (((x - lo).toNat : Nat) : Int) = x := by omega
      simp only [List.map_cons, List.map_nil, this]
    · rw [List.mem_range] at hi'
      have hs := str_sI (x := lo + (i : Int)) (M := M) (by omega)
      have he := eq_s (M := M) (ok_sI (x := lo + (i : Int)) (by omega) (by omega)) (ok_sI (x := x) (by omega) (by omega))
      have hd : decide (sI (lo + (i : Int)) = sI x) = decide (i = (x - lo).toNat) := by
        by_cases h : i = (x - lo).toNat
        · have : lo + (i : Int) = x := by omega
          rw [this]; simp [h]
        · rw [decide_eq_false h, decide_eq_false]
          intro h5
          have := sI_inj (by omega) (by omega) (by omega) (by omega) h5
          omega
      rw [hd] at he
      simp [hs, he]
  have n1 : fNe (.lst [.int x]) (.lst []) M = some true := by
    rw [ne_pl (by rfl) (by rfl) (by show 1 ≤ 64; decide) (by decide)]
    rfl
  have hr : (hi + 1 - lo).toNat ≤ 16777216 := by omega
  have e2 := e none
  simp [B_number_in, e2, n1, hr]
  all_goals try omega
/-! ### slices -/
theorem tl_cut {z : Str} {lo hi : Option Int} : tl (cutS z lo hi) = ((tl z).drop (HT.sIx z.length 0 lo)).take (HT.sIx z.length z.length hi - HT.sIx z.length 0 lo) := rfl
theorem sIx_n {n d k : Nat} : HT.sIx n d (some (k : Int)) = min k n := by
  unfold HT.sIx
  dsimp only
  rw [if_neg (by omega), Int.toNat_natCast]
theorem cut_to {z : Str} {k : Nat} : tl (cutS z none (some (k : Int))) = (tl z).take k := by
  rw [tl_cut, sIx_n]
  show List.take (min k z.length - 0) (List.drop 0 (tl z)) = _
  rw [List.drop_zero, Nat.sub_zero, len_tl, List.take_eq_take_iff]
  omega
theorem cut_frm {z : Str} {k : Nat} : tl (cutS z (some (k : Int)) none) = (tl z).drop k := by
  rw [tl_cut, sIx_n]
  show List.take (z.length - min k z.length) (List.drop (min k z.length) (tl z)) = _
  rw [List.take_of_length_le (by rw [List.length_drop, len_tl]; exact Nat.le_refl _), len_tl]
  rcases Nat.le_total k (tl z).length with h | h
  · rw [Nat.min_eq_left h]
  · rw [Nat.min_eq_right h, List.drop_length, List.drop_of_length_le h]
theorem cut_mid {z : Str} {k j : Nat} : tl (cutS z (some (k : Int)) (some ((k + j : Nat) : Int))) = ((tl z).drop k).take j := by
  rw [tl_cut, sIx_n, sIx_n, len_tl]
  rcases Nat.le_total k (tl z).length with h | h
  · rw [Nat.min_eq_left h]
    rw [List.take_eq_take_iff, List.length_drop]
    omega
  · rw [Nat.min_eq_right h, List.drop_length, List.drop_of_length_le h]
    simp
/-- brackets off -/
theorem cut_br {z : Str} : cutS ("(" ++ z ++ ")") (some 1) (some (-1)) = z := by
  refine str_ext ?_
  have hl : ("(" ++ z ++ ")" : Str).length = z.length + 2 := by
    rw [len_app, len_app, lit_len, lit_len]
    show 1 + z.length + 1 = z.length + 2
    omega
  have e1 : HT.sIx (z.length + 2) 0 (some 1) = 1 := by
    unfold HT.sIx
    dsimp only
    rw [if_neg (by omega)]
    have : (1 : Int).toNat = 1 := rfl
    rw [this]; omega
  have e2 : HT.sIx (z.length + 2) (z.length + 2) (some (-1)) = z.length + 1 := by
    unfold HT.sIx
    dsimp only
    rw [if_pos (by omega)]
    omega
  rw [tl_cut, hl, e1, e2, tl_app, tl_app, tl_o, tl_c]
  simp [len_tl]
theorem last_br {z : Str} : cutS ("(" ++ z ++ ")") (some (-1)) none = ")" := by
  refine str_ext ?_
  have hl : ("(" ++ z ++ ")" : Str).length = z.length + 2 := by
    rw [len_app, len_app, lit_len, lit_len]
    show 1 + z.length + 1 = z.length + 2
    omega
  have e1 : HT.sIx (z.length + 2) 0 (some (-1)) = z.length + 1 := by
    unfold HT.sIx
    dsimp only
    rw [if_pos (by omega)]
    omega
  rw [tl_cut, hl, e1, tl_app, tl_app, tl_o, tl_c]
  show List.take (z.length + 2 - (z.length + 1)) (List.drop (z.length + 1) ([40] ++ tl z ++ [41])) = [41]
  rw [len_tl]
  have : ([40] ++ tl z ++ [41]).drop ((tl z).length + 1) = [41] := by simp
  rw [this]
  have : (tl z).length + 2 - ((tl z).length + 1) = 1 := by omega
  rw [this]; rfl
/-! ### simple sentences -/
theorem split_sp {parts : List Str} {M : Sto} (hne : parts ≠ []) (hp : ∀ p ∈ parts, 32 ∉ tl p) (hl : (Str.join " " parts).length + 2 ≤ 16777216) : fSplit (.str (Str.join " " parts)) [.str " "] M = .ok (.lst (parts.map D.str)) M := by
  rw [split_str (by decide +kernel) hl, ← TL.join_eq, TL.split_join (s := 32) (S := []) (by decide +kernel) (by decide +kernel) hne hp]
theorem split_cm {parts : List Str} {M : Sto} (hne : parts ≠ []) (hp : ∀ p ∈ parts, 44 ∉ tl p) (hl : (Str.join "," parts).length + 2 ≤ 16777216) : fSplit (.str (Str.join "," parts)) [.str ","] M = .ok (.lst (parts.map D.str)) M := by
  rw [split_str (by decide +kernel) hl, ← TL.join_eq, TL.split_join (s := 44) (S := []) (by decide +kernel) (by decide +kernel) hne hp]
end K83

namespace K83
open PySem DL
open TL (tl)
open L2 (cutS)
abbrev nIn (L : Nat) (j : Nat) (lo hi : Int) : ME := mCall 3 0 (S_number_in L) gd_number_in_3 (mCons (mVar j) (mCons (mUn fNeg (mC (.int 3))) (mCons (mC (.int 3)) (mNil)))) (mNil)
theorem weights_rd {L : Nat} {w : List Int} {M : Sto} {Γ : DEnv} (hL : 2 ≤ L) (hΓ : 7 < Γ.length) (hw : Wt3 w) :
    lcL (mGN 7) (mYes) (mCall 3 0 (S_number_in L) gd_number_in_3 (mCons (mVar 7) (mCons (mUn fNeg (mC (.int 3))) (mCons (mC (.int 3)) (mNil)))) (mNil)) kT Γ ((w.map sI).map D.str) M = .ok (il w) M := by
  have := lc_map (g := mGN 7) (t := mYes) (e := mCall 3 0 (S_number_in L) gd_number_in_3 (mCons (mVar 7) (mCons (mUn fNeg (mC (.int 3))) (mCons (mC (.int 3)) (mNil)))) (mNil)) (Γ := Γ) (M := M) (c := fun x => D.str (sI x)) (r := D.int) w fun a ha => ⟨Γ.set 7 (some (.str (sI a))), by simp, by simp, by
    have := hw a ha
    have e := number_in (L := L) (x := a) (lo := -3) (hi := 3) (M := M) hL (by omega) (by omega) (by omega) (by omega)
    simp [hΓ, e]⟩
  rw [List.map_map]
  exact this
theorem pl_strs : ∀ ys : List Str, (∀ y ∈ ys, PyData.strOk y = true) → plDs (ys.map D.str) = true
  | [], _ => rfl
  | y :: ys, h => by
    rw [List.map_cons]
    unfold plDs
    rw [pl_strs ys fun z hz => h z (by simp [hz])]
    unfold plD
    rw [h y (by simp)]
    rfl
theorem dep_strs : ∀ ys : List Str, depDs (ys.map D.str) = 0
  | [] => rfl
  | y :: ys => by rw [List.map_cons]; unfold depDs; rw [dep_strs ys]; rfl
theorem strs_ne {y : Str} {ys : List Str} {M : Sto} (h : ∀ z ∈ y :: ys, PyData.strOk z = true) : fEq (.lst (D.str y :: ys.map D.str)) (.lst []) M = some false := by
  have e := eq_pl (d := .lst ((y :: ys).map D.str)) (e := .lst []) (M := M) (by unfold plD; exact pl_strs _ h) (by rfl) (by unfold depD; rw [dep_strs]; decide) (by decide)
  rw [List.map_cons] at e
  rw [e]
  rfl
theorem non_in {w : List Int} {M : Sto} : fIn .non (.tup (il w)) M = some false := by
  unfold fIn
  simp only [sq_tup]
  have h : (il w).all flatD = true := by simp [il, flatD]
  rw [if_pos ⟨rfl, h⟩]
  congr 1
  unfold inD
  simp [il, eqD0]
theorem kn_least : tabGet NT "least" = some 2 := nt_least
theorem simple_rd {n L : Nat} {M : Sto} (hL : 4 ≤ L) (hn : 1 ≤ n) (hn3 : n ≤ 3) : ∀ (s : Sen), Small n s → isAtom s → S_simple_in L [.str (wr s)] M = .ok (enc s) M
  | .least w c, h, _ => by
    obtain ⟨k, rfl⟩ : ∃ k, L = k + 2 := ⟨L - 2, by omega⟩
    rw [S_simple_in_eq, def_ap]
    obtain ⟨hl, hw, c1, c2⟩ := h
    have hlen := wr_len hn3 (K := 10) (s := .least w c) hl ⟨fun x hx => by have := hw x hx; omega, by omega⟩
    have hj := wj_len (K := 10) (w := w) (by omega) fun x hx => by have := hw x hx; omega
    have sz1 : sz (.least w c) = 1 := rfl
    rw [sz1] at hlen
    have hwl := wj_L (wne hn hl) hw
    have s1 := split_sp (M := M) (parts := ["least", Str.join "," (w.map sI), sI c]) (by simp) (fun p hp => by
      simp only [List.mem_cons, List.not_mem_nil, or_false] at hp
      rcases hp with rfl | rfl | rfl
      · rw [tl_least]; decide
      · intro hm; have := hwl.2 _ hm; omega
      · exact (num_L (by omega) (by omega)).free (by omega)) (by unfold wr at hlen; omega)
    have s2 := split_cm (M := M) (parts := w.map sI) (by simpa using wne hn hl) (fun p hp => by
      obtain ⟨x, hx, rfl⟩ := List.mem_map.mp hp
      have := hw x hx
      exact (num_L (by omega) (by omega)).free (by omega)) (by omega)
    have e1 := fun (Γ : DEnv) (hΓ : 7 < Γ.length) => weights_rd (L := k + 1) (w := w) (M := M) (Γ := Γ) (by omega) hΓ hw
    have okw : PyData.strOk (Str.join "," (w.map sI)) = true := ok_of fun c hc => by have := hwl.2 c hc; omega
    have okc := ok_sI (x := c) (by omega) (by omega)
    have n1 := strs_ne (M := M) (y := Str.join "," (w.map sI)) (ys := [sI c]) (fun z hz => by
      simp only [List.mem_cons, List.not_mem_nil, or_false] at hz
      rcases hz with rfl | rfl
      · exact okw
      · exact okc)
    have e2 := number_in (L := k + 1) (x := c) (lo := -4) (hi := 4) (M := M) (by omega) (by omega) (by omega) (by omega) (by omega)
    have hwr : wr (.least w c) = Str.join " " ["least", Str.join "," (w.map sI), sI c] := rfl
    rw [hwr]
    simp only [List.map_cons, List.map_nil, List.map_map] at s1 s2 n1 e1
    have hil : (il w).length = n := by simp [il, hl]
    simp [B_simple_in, s1, s2, n1, nt_least, e1, non_in, eq_s, ok_least, e2, enc, hl, hil, fIs, isNon, hn3]
    all_goals try omega
  | .rest w m r, h, _ => by
    obtain ⟨k, rfl⟩ : ∃ k, L = k + 2 := ⟨L - 2, by omega⟩
    rw [S_simple_in_eq, def_ap]
    obtain ⟨hl, hw, ⟨m1, m2⟩, r1, r2⟩ := h
    have hlen := wr_len hn3 (K := 10) (s := .rest w m r) ⟨hl, by omega⟩ ⟨fun x hx => by have := hw x hx; omega, by omega, by omega⟩
    have hj := wj_len (K := 10) (w := w) (by omega) fun x hx => by have := hw x hx; omega
    have sz1 : sz (.rest w m r) = 1 := rfl
    rw [sz1] at hlen
    have hwl := wj_L (wne hn hl) hw
    have s1 := split_sp (M := M) (parts := ["rest", Str.join "," (w.map sI), sI m, sI r]) (by simp) (fun p hp => by
      simp only [List.mem_cons, List.not_mem_nil, or_false] at hp
      rcases hp with rfl | rfl | rfl | rfl
      · rw [tl_rest]; decide
      · intro hm; have := hwl.2 _ hm; omega
      · exact (num_L (by omega) (by omega)).free (by omega)
      · exact (num_L (by omega) (by omega)).free (by omega)) (by unfold wr at hlen; omega)
    have s2 := split_cm (M := M) (parts := w.map sI) (by simpa using wne hn hl) (fun p hp => by
      obtain ⟨x, hx, rfl⟩ := List.mem_map.mp hp
      have := hw x hx
      exact (num_L (by omega) (by omega)).free (by omega)) (by omega)
    have e1 := fun (Γ : DEnv) (hΓ : 7 < Γ.length) => weights_rd (L := k + 1) (w := w) (M := M) (Γ := Γ) (by omega) hΓ hw
    have okw : PyData.strOk (Str.join "," (w.map sI)) = true := ok_of fun c hc => by have := hwl.2 c hc; omega
    have okm := ok_sI (x := m) (by omega) (by omega)
    have okr := ok_sI (x := r) (by omega) (by omega)
    have n1 := strs_ne (M := M) (y := Str.join "," (w.map sI)) (ys := [sI m, sI r]) (fun z hz => by
      simp only [List.mem_cons, List.not_mem_nil, or_false] at hz
      rcases hz with rfl | rfl | rfl
      · exact okw
      · exact okm
      · exact okr)
    have e2 := number_in (L := k + 1) (x := m) (lo := 2) (hi := 5) (M := M) (by omega) (by omega) (by omega) (by omega) (by omega)
    have e3 := number_in (L := k + 1) (x := r) (lo := 0) (hi := m - 1) (M := M) (by omega) (by omega) (by omega) (by omega) (by omega)
    have hwr : wr (.rest w m r) = Str.join " " ["rest", Str.join "," (w.map sI), sI m, sI r] := rfl
    rw [hwr]
    simp only [List.map_cons, List.map_nil, List.map_map] at s1 s2 n1 e1
    have hil : (il w).length = n := by simp [il, hl]
    simp [B_simple_in, s1, s2, n1, nt_rest, e1, non_in, eq_s, ok_least, ok_rest, e2, e3, enc, hl, hil, fIs, isNon, hn3]
    all_goals try omega
end K83

namespace K83
open PySem DL
open TL (tl)
open L2 (cutS)
/-! ### places between -/
abbrev ZW : MS := mIfS (mAndT (mCmpT fEq (mVar 2) (mC (.int 0))) (mCmpT fEq (mSl (mVar 0) (mPart (mVar 3)) (mPart (mBin fAdd (mBin fAdd (mVar 3) (mB fLen (mCons (mVar 5) (mNil)))) (mC (.int 2))))) (mBin fAdd (mBin fAdd (mC (.str " ")) (mVar 5)) (mC (.str " "))))) (mExpr (mMt preL fAppend (mVar 1) (mCons (mTup (mCons (mVar 3) (mCons (mVar 5) (mNil)))) (mNil)))) (mPass)
abbrev ZF : MS := mFor (mIter (mTup (mCons (mC (.str "and")) (mCons (mC (.str "or")) (mNil))))) (mGN 5) ZW
abbrev ZK : MS := mAug 2 fIAdd (mKGet [("(", 1), (")", -1)] (mVar 4) (mC (.int 0)))
abbrev ZB : MS := mSeq ZK ZF
abbrev ZG : MG := mGSeq 2 (mGCons (mGN 3) (mGCons (mGN 4) (mGNil)))
def Ev (t : Str) (r : Nat) (d : Int) (a b c : Option D) : DEnv := [some (.str t), some (.ref r), some (.int d), a, b, c]
theorem len_s {x : Str} {M : Sto} (h : x.length ≤ 1000) : fLen [.str x] M = .ok (.int x.length) M := by
  unfold fLen lenOf
  dsimp only
  rw [if_pos (by omega)]
theorem cut_eq {t w : Str} {i : Nat} : cutS t (some (i : Int)) (some ((i : Int) + (w.length : Int) + 2)) = cutS t (some (i : Int)) (some ((i + (w.length + 2) : Nat) : Int)) := by
  have : (i : Int) + (w.length : Int) + 2 = ((i + (w.length + 2) : Nat) : Int) := by omega
  rw [this]
def Hit (t w : Str) (i : Nat) : Prop := ((tl t).drop i).take (w.length + 2) = 32 :: (tl w ++ [32])
instance (t w : Str) (i : Nat) : Decidable (Hit t w i) := inferInstanceAs (Decidable (_ = _))
theorem word_eq {t w : Str} {i : Nat} {M : Sto} (ht : okL (tl t)) (hw : okL (tl w)) : fEq (.str (cutS t (some (i : Int)) (some ((i : Int) + (w.length : Int) + 2)))) (.str (" " ++ w ++ " ")) M = some (decide (Hit t w i)) := by
  have sp : okL [32] := fun c hc => by simp at hc; omega
  rw [eq_s (ok_of (okL_cut ht)) (ok_of (by rw [tl_app, tl_app, tl_sp]; exact okL_app (okL_app sp hw) sp)), cut_eq]
  congr 1
  refine decide_eq_decide.mpr ⟨fun h => ?_, fun h => str_ext ?_⟩
  · have := congrArg tl h
    rw [cut_mid, tl_app, tl_app, tl_sp] at this
    exact this
  · rw [cut_mid, tl_app, tl_app, tl_sp]
    exact h
theorem word_no {t w : Str} {r i : Nat} {d : Int} {b : Option D} {M : Sto} (ht : okL (tl t)) (hl : t.length ≤ 16777216) (hw : okL (tl w)) (hk : w.length ≤ 1000) (hi : i ≤ 16777216) (h : ¬ (d = 0 ∧ Hit t w i)) :
    ZW (Ev t r d (some (.int i)) b (some (.str w))) M = .nx (Ev t r d (some (.int i)) b (some (.str w))) M := by
  have a1 := add_s (x := " ") (y := w) (M := M) (by rw [sp_len]; omega)
  have a2 := add_s (x := " " ++ w) (y := " ") (M := M) (by rw [len_app, sp_len]; omega)
  have e := word_eq (t := t) (w := w) (i := i) (M := M) ht hw
  have sl : fSl (.str t) (some (i : Int)) (some ((i : Int) + (w.length : Int) + 2)) M = .ok (.str (cutS t (some (i : Int)) (some ((i : Int) + (w.length : Int) + 2)))) M := if_pos hl
  by_cases hd : d = 0
  · have hh : decide (Hit t w i) = false := decide_eq_false fun q => h ⟨hd, q⟩
    rw [hh] at e
    subst hd
    simp [Ev, len_s hk, a1, a2, sl, e]
  · simp [Ev, hd]
theorem word_yes {t w : Str} {r i : Nat} {b : Option D} {M : Sto} {xs : List D} (ht : okL (tl t)) (hl : t.length ≤ 16777216) (hw : okL (tl w)) (hk : w.length ≤ 1000) (hi : i ≤ 16777216) (h : Hit t w i) (hM : M[r]? = some (.lst xs)) (hx : xs.length < 16777216) :
    ZW (Ev t r 0 (some (.int i)) b (some (.str w))) M = .nx (Ev t r 0 (some (.int i)) b (some (.str w))) (M.set r (.lst (xs ++ [.tup [.int i, .str w]]))) := by
  have a1 := add_s (x := " ") (y := w) (M := M) (by rw [sp_len]; omega)
  have a2 := add_s (x := " " ++ w) (y := " ") (M := M) (by rw [len_app, sp_len]; omega)
  have e := word_eq (t := t) (w := w) (i := i) (M := M) ht hw
  have sl : fSl (.str t) (some (i : Int)) (some ((i : Int) + (w.length : Int) + 2)) M = .ok (.str (cutS t (some (i : Int)) (some ((i : Int) + (w.length : Int) + 2)))) M := if_pos hl
  rw [decide_eq_true h] at e
  have p : preL M (.ref r) = true := by unfold preL; rw [ls_ref hM]; rfl
  have ap : fAppend (.ref r) [.tup [.int i, .str w]] M = .ok .non (M.set r (.lst (xs ++ [.tup [.int i, .str w]]))) := by
    unfold fAppend
    dsimp only
    rw [hM]
    exact if_pos hx
  simp [Ev, len_s hk, a1, a2, sl, e, p, ap]
theorem okL_and : okL (tl "and") := by rw [tl_and]; intro c hc; simp at hc; omega
theorem okL_or : okL (tl "or") := by rw [tl_or]; intro c hc; simp at hc; omega
theorem len_and : ("and" : Str).length = 3 := lit_len "and"
theorem len_or : ("or" : Str).length = 2 := lit_len "or"
theorem ev_set {t : Str} {r : Nat} {d : Int} {a b c : Option D} {x : D} : (Ev t r d a b c).set 5 (some x) = Ev t r d a b (some x) := rfl
/-- the two words at a place -/
theorem pf_no {t : Str} {r i : Nat} {d : Int} {b c : Option D} {M : Sto} (ht : okL (tl t)) (hl : t.length ≤ 16777216) (hi : i ≤ 16777216) (h1 : ¬ (d = 0 ∧ Hit t "and" i)) (h2 : ¬ (d = 0 ∧ Hit t "or" i)) :
    ZF (Ev t r d (some (.int i)) b c) M = .nx (Ev t r d (some (.int i)) b (some (.str "or"))) M := by
  have e : ZF (Ev t r d (some (.int i)) b c) M = forL (mGN 5) ZW kT [.str "and", .str "or"] (Ev t r d (some (.int i)) b c) M := by simp
  rw [e, for_step (Γ1 := Ev t r d (some (.int i)) b (some (.str "and"))) (M1 := M) (by simp [ev_set]) (word_no ht hl okL_and (by rw [len_and]; omega) hi h1),
    for_step (Γ1 := Ev t r d (some (.int i)) b (some (.str "or"))) (M1 := M) (by simp [ev_set]) (word_no ht hl okL_or (by rw [len_or]; omega) hi h2), for_nil]
theorem pf_and {t : Str} {r i : Nat} {b c : Option D} {M : Sto} {xs : List D} (ht : okL (tl t)) (hl : t.length ≤ 16777216) (hi : i ≤ 16777216) (h1 : Hit t "and" i) (h2 : ¬ Hit t "or" i) (hM : M[r]? = some (.lst xs)) (hx : xs.length < 16777216) :
    ZF (Ev t r 0 (some (.int i)) b c) M = .nx (Ev t r 0 (some (.int i)) b (some (.str "or"))) (M.set r (.lst (xs ++ [.tup [.int i, .str "and"]]))) := by
  have e : ZF (Ev t r 0 (some (.int i)) b c) M = forL (mGN 5) ZW kT [.str "and", .str "or"] (Ev t r 0 (some (.int i)) b c) M := by simp
  rw [e, for_step (Γ1 := Ev t r 0 (some (.int i)) b (some (.str "and"))) (M1 := M) (by simp [ev_set]) (word_yes ht hl okL_and (by rw [len_and]; omega) hi h1 hM hx),
    for_step (Γ1 := Ev t r 0 (some (.int i)) b (some (.str "or"))) (M1 := M.set r (.lst (xs ++ [.tup [.int i, .str "and"]]))) (by simp [ev_set]) (word_no ht hl okL_or (by rw [len_or]; omega) hi fun q => h2 q.2), for_nil]
theorem pf_or {t : Str} {r i : Nat} {b c : Option D} {M : Sto} {xs : List D} (ht : okL (tl t)) (hl : t.length ≤ 16777216) (hi : i ≤ 16777216) (h1 : ¬ Hit t "and" i) (h2 : Hit t "or" i) (hM : M[r]? = some (.lst xs)) (hx : xs.length < 16777216) :
    ZF (Ev t r 0 (some (.int i)) b c) M = .nx (Ev t r 0 (some (.int i)) b (some (.str "or"))) (M.set r (.lst (xs ++ [.tup [.int i, .str "or"]]))) := by
  have e : ZF (Ev t r 0 (some (.int i)) b c) M = forL (mGN 5) ZW kT [.str "and", .str "or"] (Ev t r 0 (some (.int i)) b c) M := by simp
  rw [e, for_step (Γ1 := Ev t r 0 (some (.int i)) b (some (.str "and"))) (M1 := M) (by simp [ev_set]) (word_no ht hl okL_and (by rw [len_and]; omega) hi fun q => h1 q.2),
    for_step (Γ1 := Ev t r 0 (some (.int i)) b (some (.str "or"))) (M1 := M) (by simp [ev_set]) (word_yes ht hl okL_or (by rw [len_or]; omega) hi h2 hM hx), for_nil]
/-- the depth -/
def sg (c : Nat) : D := .str ⟨#[c]⟩
theorem tab_dep {c : Nat} : ((tabGet [("(", 1), (")", -1)] ⟨#[c]⟩).map D.int).getD (.int 0) = .int (dep1 c) := by
  unfold tabGet dep1
  have e1 : (("(" : Str) = (⟨#[c]⟩ : Str)) ↔ c = 40 := ⟨fun h => by
    have := congrArg tl h
    rw [tl_o] at this
    simp [tl] at this
    exact this.symm, fun h => by subst h; decide +kernel⟩
  have e2 : ((")" : Str) = (⟨#[c]⟩ : Str)) ↔ c = 41 := ⟨fun h => by
    have := congrArg tl h
    rw [tl_c] at this
    simp [tl] at this
    exact this.symm, fun h => by subst h; decide +kernel⟩
  by_cases h1 : c = 40
  · subst h1; simp [e1]
  · by_cases h2 : c = 41
    · subst h2; simp [e1, e2]
    · simp [e1, e2, h1, h2]
theorem pk_step {t : Str} {r c : Nat} {d : Int} {a e : Option D} {M : Sto} : ZK (Ev t r d a (some (sg c)) e) M = .nx (Ev t r (d + dep1 c) a (some (sg c)) e) M := by
  unfold ZK
  rw [e_aug (d := .int d) (by simp [Ev])]
  simp only [e_kget, e_var, e_c, Ev, List.getElem?_cons_succ, List.getElem?_cons_zero, Res.bind_ok, sg, toS_ok, tab_dep, iadd_i, List.set_cons_succ, List.set_cons_zero]
theorem for_pass {t : Str} {r i c : Nat} {d : Int} {a b e : Option D} {M M2 : Sto} {ds : List D} {Γ2 : DEnv} (h : ZF (Ev t r (d + dep1 c) (some (.int i)) (some (sg c)) e) M = .nx Γ2 M2) :
    forL ZG ZB kT (.tup [.int i, sg c] :: ds) (Ev t r d a b e) M = forL ZG ZB kT ds Γ2 M2 := by
  refine for_step (Γ1 := Ev t r d (some (.int i)) (some (sg c)) e) (M1 := M) (by simp [Ev]) ?_
  show mSeq ZK ZF (Ev t r d (some (.int i)) (some (sg c)) e) M = _
  rw [e_seq, pk_step, rs_nx, h]
theorem hit_head {t w : Str} {i : Nat} {c : Nat} {r : List Nat} (h : (tl t).drop i = c :: r) (hc : c ≠ 32) : ¬ Hit t w i := fun q => by
  unfold Hit at q
  rw [h, List.take_succ_cons] at q
  injection q with q1 q2
  exact hc q1
theorem hit_next {t w : Str} {i : Nat} {c x : Nat} {r : List Nat} {y : Nat} {ys : List Nat} (h : (tl t).drop i = c :: x :: r) (hw : tl w = y :: ys) (hc : x ≠ y) : ¬ Hit t w i := fun q => by
  unfold Hit at q
  have : w.length = ys.length + 1 := by rw [len_tl, hw]; rfl
  rw [h, this, List.take_succ_cons, List.take_succ_cons, hw] at q
  injection q with q1 q2
  injection q2 with q2 q3
  exact hc q2
theorem quiet {t : Str} {r : Nat} {M : Sto} {ds : List D} (ht : okL (tl t)) (hl : t.length ≤ 16000000) : ∀ (p : List Nat) (i : Nat) (post : List Nat) (d : Int) (a b e : Option D), (tl t).drop i = p ++ post → good d p →
    ∃ a' b' e', forL ZG ZB kT (enumD i (p.map sg) ++ ds) (Ev t r d a b e) M = forL ZG ZB kT ds (Ev t r (run d p) a' b' e') M
  | [], i, post, d, a, b, e, _, _ => ⟨a, b, e, rfl⟩
  | c :: p, i, post, d, a, b, e, h, g => by
    have h : (tl t).drop i = c :: (p ++ post) := h
    have hi : i ≤ 16777216 := by
      have := congrArg List.length h
      rw [List.length_drop, List.length_cons, ← len_tl] at this
      omega
    have hd : (tl t).drop (i + 1) = p ++ post := by rw [← List.drop_drop, h]; rfl
    have no : ∀ (w : Str) (y : Nat) (ys : List Nat), tl w = y :: ys → (y = 97 ∨ y = 111) → ¬ (d + dep1 c = 0 ∧ Hit t w i) := fun w y ys hw hy ⟨z, q⟩ => by
      by_cases hc : c = 32
      · obtain ⟨x, r', rfl, n1, n2⟩ := g.1 z hc
        exact hit_next h hw (by omega) q
      · exact hit_head h hc q
    have pf := pf_no (t := t) (r := r) (i := i) (d := d + dep1 c) (b := some (sg c)) (c := e) (M := M) ht (by omega) hi (no "and" 97 _ tl_and (.inl rfl)) (no "or" 111 _ tl_or (.inr rfl))
    obtain ⟨a', b', e', ih⟩ := quiet (M := M) (r := r) (ds := ds) ht hl p (i + 1) post (d + dep1 c) (some (.int i)) (some (sg c)) (some (.str "or")) hd g.2
    refine ⟨a', b', e', ?_⟩
    show forL ZG ZB kT (.tup [.int i, sg c] :: (enumD (i + 1) (p.map sg) ++ ds)) (Ev t r d a b e) M = _
    rw [for_pass pf, ih]
    rfl
theorem enum_app : ∀ (p q : List D) (i : Nat), enumD i (p ++ q) = enumD i p ++ enumD (i + p.length) q
  | [], q, i => by simp [enumD]
  | d :: p, q, i => by
    show enumD i (d :: (p ++ q)) = _
    have ih := enum_app p q (i + 1)
    simp only [enumD] at ih ⊢
    rw [ih]
    simp only [List.cons_append, List.length_cons]
    have : i + 1 + p.length = i + (p.length + 1) := by omega
    rw [this]
end K83

namespace K83
open PySem DL
open TL (tl)
open L2 (cutS)
theorem pass_all {t : Str} {r : Nat} {M M2 : Sto} {p q : List Nat} {x : Nat} {u : D} (ht : okL (tl t)) (hl : t.length ≤ 16000000) (h : tl t = p ++ 32 :: q) (gp : Seg 0 p) (gq : good 0 q) (hM2 : M2 = M.set r (.lst [u]))
    (hf : ∀ b c, ZF (Ev t r 0 (some (.int p.length)) b c) M = .nx (Ev t r 0 (some (.int p.length)) b (some (.str "or"))) M2) :
    ∃ d a b c, forL ZG ZB kT (enumD 0 (signsD t)) (Ev t r 0 none none none) M = .nx (Ev t r d a b c) M2 := by
  have hs : signsD t = p.map sg ++ (sg 32 :: q.map sg) := by
    show (tl t).map sg = _
    rw [h, List.map_append, List.map_cons]
  rw [hs, enum_app, List.length_map, Nat.zero_add]
  obtain ⟨a, b, c, e1⟩ := quiet (t := t) (r := r) (M := M) (ds := enumD p.length (sg 32 :: q.map sg)) ht hl p 0 (32 :: q) 0 none none none (by rw [List.drop_zero, h]) gp.good
  rw [e1, gp.run]
  obtain ⟨a', b', c', e2⟩ := quiet (t := t) (r := r) (M := M2) (ds := []) ht hl q (p.length + 1) [] 0 (some (.int p.length)) (some (sg 32)) (some (.str "or")) (by rw [h]; simp) gq
  have e3 := for_pass (t := t) (r := r) (i := p.length) (c := 32) (d := 0) (a := a) (b := b) (e := c) (M := M) (M2 := M2) (ds := enumD (p.length + 1) (q.map sg)) (Γ2 := Ev t r 0 (some (.int p.length)) (some (sg 32)) (some (.str "or"))) (by
    have e : (0 : Int) + dep1 32 = 0 := rfl
    rw [e]
    exact hf _ _)
  rw [List.append_nil] at e2
  refine ⟨run 0 q, a', b', c', ?_⟩
  show forL ZG ZB kT (.tup [.int p.length, sg 32] :: enumD (p.length + 1) (q.map sg)) (Ev t r 0 a b c) M = _
  rw [e3, e2, for_nil]
theorem hit_at {t w : Str} {p q : List Nat} (h : tl t = p ++ 32 :: (tl w ++ 32 :: q)) : Hit t w p.length := by
  unfold Hit
  rw [h, List.drop_left, len_tl]
  have e : 32 :: (tl w ++ 32 :: q) = (32 :: (tl w ++ [32])) ++ q := by simp
  rw [e, List.take_append_of_le_length (by simp), List.take_of_length_le (by simp)]
theorem miss_at {t w : Str} {p q ys : List Nat} {x y : Nat} (h : tl t = p ++ 32 :: x :: q) (hw : tl w = y :: ys) (hc : x ≠ y) : ¬ Hit t w p.length :=
  hit_next (r := q) (by rw [h, List.drop_left]) hw hc
theorem places {L : Nat} {a b w : Str} {M : Sto} (hL : 2 ≤ L) (hM : Cl M) (hw : w = "and" ∨ w = "or") (ga : Seg 0 (tl a)) (gb : Seg 0 (tl b)) (hb : HeadOk (tl b)) (hl : (a ++ " " ++ w ++ " " ++ b).length ≤ 16000000) :
    S_places_between L [.str (a ++ " " ++ w ++ " " ++ b)] M = .ok (.lst [.tup [.int a.length, .str w]]) M := by
  obtain ⟨k, rfl⟩ : ∃ k, L = k + 2 := ⟨L - 2, by omega⟩
  rw [S_places_between_eq, def_ap]
  have hlw : w.length ≤ 3 := by rcases hw with rfl | rfl <;> simp [len_and, len_or]
  have htl : tl (a ++ " " ++ w ++ " " ++ b) = tl a ++ 32 :: (tl w ++ 32 :: tl b) := by simp [tl_app, tl_sp]
  have sw : Seg 0 (tl w) := by
    rcases hw with rfl | rfl
    · rw [tl_and]; exact seg_calm 0 (by decide)
    · rw [tl_or]; exact seg_calm 0 (by decide)
  have gq := sw.app (gb.sp hb)
  generalize ht : a ++ " " ++ w ++ " " ++ b = t at *
  have ok : okL (tl t) := by
    rw [htl]
    exact okL_app ga.ok (okL_app (a := [32]) (fun c hc => by simp at hc; omega) gq.ok)
  have hal : a.length ≤ 16000000 := by rw [← ht] at hl; simp only [len_app] at hl; omega
  have hset : (M ++ [MO.lst []]).set M.length (MO.lst [.tup [.int a.length, .str w]]) = M ++ [.lst [.tup [.int a.length, .str w]]] := by simp
  have hMr : (M ++ [MO.lst []])[M.length]? = some (.lst []) := by simp
  obtain ⟨d, x, y, z, e⟩ := pass_all (t := t) (r := M.length) (M := M ++ [MO.lst []]) (M2 := M ++ [MO.lst [.tup [.int a.length, .str w]]]) (p := tl a) (q := tl w ++ 32 :: tl b) (u := .tup [.int a.length, .str w]) (x := 0) ok (by omega) htl ga gq.good hset.symm (fun b' c' => by
    rw [← hset, ← len_tl]
    rcases hw with rfl | rfl
    · have h1 : Hit t "and" a.length := by rw [len_tl]; exact hit_at htl
      have h2 : ¬ Hit t "or" a.length := by rw [len_tl]; exact miss_at (x := 97) (by rw [htl, tl_and]; rfl) tl_or (by omega)
      exact pf_and (xs := []) ok (by omega) (by omega) h1 h2 hMr (by simp)
    · have h1 : Hit t "or" a.length := by rw [len_tl]; exact hit_at htl
      have h2 : ¬ Hit t "and" a.length := by rw [len_tl]; exact miss_at (x := 111) (by rw [htl, tl_or]; rfl) tl_and (by omega)
      exact pf_or (xs := []) ok (by omega) (by omega) h2 h1 hMr (by simp))
  have hfr : fFreeze (.ref M.length) (M ++ [MO.lst [.tup [.int a.length, .str w]]]) = .ok (.lst [.tup [.int a.length, .str w]]) (M ++ [.dead]) := freeze_app
  have tr : (Res.ok (D.lst [.tup [.int a.length, .str w]]) (M ++ [MO.dead])).trim M.length = .ok (.lst [.tup [.int a.length, .str w]]) M := trim_app (by simp [D.low, lows]) hM
  have hl2 : t.length ≤ 16777216 := by omega
  have eb : forL ZG ZB kT (enumD 0 (signsD t)) [some (.str t), some (.ref M.length), some (.int 0), none, none, none] (M ++ [MO.lst []]) = .nx (Ev t M.length d x y z) (M ++ [.lst [.tup [.int a.length, .str w]]]) := e
  simp only [ZB, ZK, ZF, ZW, ZG] at eb
  simp [-e_gseq, -e_gcons, -e_ifS, B_places_between, hl2, enumT, eb, Ev, hfr, tr]
end K83

namespace K83
open PySem DL
open TL (tl)
open L2 (cutS)
theorem small_val {n : Nat} : ∀ {s : Sen}, Small n s → Val n s
  | .least w c, h => h.1
  | .rest w m r, h => ⟨h.1, by have := h.2.2.1.1; omega⟩
  | .neg a, h => small_val (s := a) h
  | .con a b, h => ⟨small_val h.1, small_val h.2⟩
  | .dis a b, h => ⟨small_val h.1, small_val h.2⟩
theorem small_bd {n : Nat} : ∀ {s : Sen}, Small n s → Bd 10 s
  | .least w c, h => ⟨fun x hx => by have := h.2.1 x hx; omega, by have := h.2.2; omega⟩
  | .rest w m r, h => ⟨fun x hx => by have := h.2.1 x hx; omega, by have := h.2.2.1; omega, by have := h.2.2; omega⟩
  | .neg a, h => small_bd (s := a) h
  | .con a b, h => ⟨small_bd h.1, small_bd h.2⟩
  | .dis a b, h => ⟨small_bd h.1, small_bd h.2⟩
theorem sz_dep : ∀ s : Sen, sz s + 1 ≤ 2 ^ (dep s + 1)
  | .least _ _ => by show 1 + 1 ≤ 2 ^ (0 + 1); decide
  | .rest _ _ _ => by show 1 + 1 ≤ 2 ^ (0 + 1); decide
  | .neg a => by
    have := sz_dep a
    unfold sz dep
    rw [Nat.pow_succ]
    have : 1 ≤ 2 ^ (dep a + 1) := Nat.one_le_two_pow
    omega
  | .con a b => by
    have h1 := sz_dep a
    have h2 := sz_dep b
    have h3 : 2 ^ (dep a + 1) ≤ 2 ^ (max (dep a) (dep b) + 1) := Nat.pow_le_pow_right (by omega) (by omega)
    have h4 : 2 ^ (dep b + 1) ≤ 2 ^ (max (dep a) (dep b) + 1) := Nat.pow_le_pow_right (by omega) (by omega)
    unfold sz dep
    rw [Nat.pow_succ]
    omega
  | .dis a b => by
    have h1 := sz_dep a
    have h2 := sz_dep b
    have h3 : 2 ^ (dep a + 1) ≤ 2 ^ (max (dep a) (dep b) + 1) := Nat.pow_le_pow_right (by omega) (by omega)
    have h4 : 2 ^ (dep b + 1) ≤ 2 ^ (max (dep a) (dep b) + 1) := Nat.pow_le_pow_right (by omega) (by omega)
    unfold sz dep
    rw [Nat.pow_succ]
    omega
theorem small_len {n : Nat} {s : Sen} (hn3 : n ≤ 3) (h : Small n s) (hd : dep s ≤ 2) : (wr s).length ≤ 700 := by
  have h1 := wr_len hn3 (small_val h) (small_bd h)
  have h2 := sz_dep s
  have h3 : 2 ^ (dep s + 1) ≤ 2 ^ 3 := Nat.pow_le_pow_right (by omega) (by omega)
  have h4 : sz s ≤ 8 := by omega
  have h5 : sz s * (5 * 10 + 30) ≤ 8 * 80 := Nat.mul_le_mul h4 (by omega)
  omega
theorem okn : PyData.strOk (Str.ofString "not ") = true := by decide +kernel
theorem oko : PyData.strOk (Str.ofString "(") = true := by decide +kernel
theorem okc : PyData.strOk (Str.ofString ")") = true := by decide +kernel
theorem head_no {t : Str} {c : Nat} {r : List Nat} {M : Sto} (ok : okL (tl t)) (h : tl t = c :: r) (hc : c ≠ 110) : fEq (.str (cutS t none (some 4))) (.str "not ") M = some false := by
  rw [eq_s (ok_of (okL_cut ok)) okn]
  refine congrArg some (decide_eq_false fun e => ?_)
  have := congrArg tl e
  have e4 : cutS t none (some 4) = cutS t none (some ((4 : Nat) : Int)) := rfl
  rw [e4, cut_to, h, tl_not] at this
  injection this with h1 h2
  exact hc h1
theorem head_br {t : Str} {c : Nat} {r : List Nat} {M : Sto} (ok : okL (tl t)) (h : tl t = c :: r) (hc : c ≠ 40) : fEq (.str (cutS t none (some 1))) (.str "(") M = some false := by
  rw [eq_s (ok_of (okL_cut ok)) oko]
  refine congrArg some (decide_eq_false fun e => ?_)
  have := congrArg tl e
  have e4 : cutS t none (some 1) = cutS t none (some ((1 : Nat) : Int)) := rfl
  rw [e4, cut_to, h, tl_o] at this
  injection this with h1 h2
  exact hc h1
theorem sl_s {t : Str} {lo hi : Option Int} {M : Sto} (h : t.length ≤ 16777216) : fSl (.str t) lo hi M = .ok (.str (cutS t lo hi)) M := if_pos h
theorem both_in {L i n : Nat} {a b : Sen} {w : Str} {M : Sto} (hL : 4 ≤ L) (hM : Cl M) (hn : 1 ≤ n) (hn3 : n ≤ 3) (hw : w = "and" ∨ w = "or") (ha : Small n a) (hb : Small n b) (da : dep a ≤ 2) (db : dep b ≤ 2)
    (e1 : S_sentence_in (L - 1) [.str (wr a), .int ((i : Int) + 1)] M = .ok (enc a) M) (e2 : S_sentence_in (L - 1) [.str (wr b), .int ((i : Int) + 1)] M = .ok (enc b) M) :
    S_both_in L [.str (wr a ++ " " ++ w ++ " " ++ wr b), .int i] M = .ok (.tup [.str w, enc a, enc b]) M := by
  obtain ⟨k, rfl⟩ : ∃ k, L = k + 2 := ⟨L - 2, by omega⟩
  rw [S_both_in_eq, def_ap]
  have e1 : S_sentence_in (k + 1) [.str (wr a), .int ((i : Int) + 1)] M = .ok (enc a) M := e1
  have e2 : S_sentence_in (k + 1) [.str (wr b), .int ((i : Int) + 1)] M = .ok (enc b) M := e2
  have la := small_len hn3 ha da
  have lb := small_len hn3 hb db
  have lw : w.length ≤ 3 := by rcases hw with rfl | rfl <;> simp [len_and, len_or]
  have hl : (wr a ++ " " ++ w ++ " " ++ wr b).length ≤ 16000 := by simp only [len_app, sp_len]; omega
  have p := places (L := k + 1) (a := wr a) (b := wr b) (w := w) (M := M) (by omega) hM hw (wr_seg hn a 0 (by omega) ha).1 (wr_seg hn b 0 (by omega) hb).1 (wr_seg hn b 0 (by omega) hb).2 (by omega)
  have c1 : cutS (wr a ++ " " ++ w ++ " " ++ wr b) none (some ((wr a).length : Int)) = wr a := str_ext (by
    rw [cut_to, tl_app, tl_app, tl_app, tl_app, len_tl]
    simp)
  have c2 : cutS (wr a ++ " " ++ w ++ " " ++ wr b) (some (((wr a).length : Int) + (w.length : Int) + 2)) none = wr b := str_ext (by
    have : ((wr a).length : Int) + (w.length : Int) + 2 = (((wr a).length + w.length + 2 : Nat) : Int) := by omega
    rw [this, cut_frm]
    have e : tl (wr a ++ " " ++ w ++ " " ++ wr b) = tl (wr a ++ " " ++ w ++ " ") ++ tl (wr b) := tl_app _ _
    have e2 : (wr a).length + w.length + 2 = (tl (wr a ++ " " ++ w ++ " ")).length := by
      rw [← len_tl]; simp only [len_app, sp_len]; omega
    rw [e, e2, List.drop_left])
  have s1 := fun lo hi => sl_s (t := wr a ++ " " ++ w ++ " " ++ wr b) (lo := lo) (hi := hi) (M := M) (by omega)
  have le := len_s (x := w) (M := M) (by omega)
  generalize wr a ++ " " ++ w ++ " " ++ wr b = t at *
  simp [B_both_in, p, s1, c1, c2, le, e1, e2, fIs]
  obtain ⟨x, ds, ea⟩ := enc_w a
  obtain ⟨y, es, eb⟩ := enc_w b
  simp [ea, eb, isNon]
theorem wr_head {n : Nat} : ∀ (s : Sen), isAtom s → ∃ c r, tl (wr s) = c :: r ∧ c ≠ 110 ∧ c ≠ 40
  | .least w c, _ => ⟨108, _, tl_leastw, by omega, by omega⟩
  | .rest w m r, _ => ⟨114, _, tl_restw, by omega, by omega⟩
theorem non_enc {s : Sen} {M : Sto} : fIs (enc s) .non M = some false := by
  obtain ⟨x, ds, e⟩ := enc_w s
  rw [e]; rfl
theorem atom_rd {n L i : Nat} {s : Sen} {M : Sto} (hL : 8 ≤ L) (hn : 1 ≤ n) (hn3 : n ≤ 3) (hi : i ≤ 2) (h : Small n s) (hat : isAtom s) : S_sentence_in L [.str (wr s), .int i] M = .ok (enc s) M := by
  obtain ⟨k, rfl⟩ : ∃ k, L = k + 2 := ⟨L - 2, by omega⟩
  rw [S_sentence_in_eq, def_ap]
  obtain ⟨c, r, ht, h1, h2⟩ := wr_head (n := n) s hat
  have ok := (wr_seg hn s 0 (by omega) h).1.ok
  have e1 := head_no (M := M) ok ht h1
  have e2 := head_br (M := M) ok ht h2
  have e3 := simple_rd (L := k + 1) (M := M) (by omega) hn hn3 s h hat
  have hd : dep s = 0 := by cases s <;> first | rfl | exact hat.elim
  have hl := small_len hn3 h (by omega)
  have s1 := fun lo hi => sl_s (t := wr s) (lo := lo) (hi := hi) (M := M) (by omega)
  have hi' : decide ((2 : Int) < (i : Int)) = false := decide_eq_false (by omega)
  simp [B_sentence_in, hi', s1, e1, e2, e3]
theorem br_rd {n L i : Nat} {s a b : Sen} {w : Str} {M : Sto} (hL : 8 ≤ L) (hM : Cl M) (hn : 1 ≤ n) (hn3 : n ≤ 3) (hi : i ≤ 2) (h : Small n s) (hd : dep s ≤ 2) (hs : wr s = "(" ++ (wr a ++ " " ++ w ++ " " ++ wr b) ++ ")")
    (e3 : S_both_in (L - 1) [.str (wr a ++ " " ++ w ++ " " ++ wr b), .int i] M = .ok (.tup [.str w, enc a, enc b]) M) : S_sentence_in L [.str (wr s), .int i] M = .ok (.tup [.str w, enc a, enc b]) M := by
  obtain ⟨k, rfl⟩ : ∃ k, L = k + 2 := ⟨L - 2, by omega⟩
  have e3 : S_both_in (k + 1) [.str (wr a ++ " " ++ w ++ " " ++ wr b), .int i] M = .ok (.tup [.str w, enc a, enc b]) M := e3
  rw [S_sentence_in_eq, def_ap]
  have ok := (wr_seg hn s 0 (by omega) h).1.ok
  have hl := small_len hn3 h hd
  have ht : tl (wr s) = 40 :: (tl (wr a ++ " " ++ w ++ " " ++ wr b) ++ [41]) := by rw [hs, tl_app, tl_app, tl_o, tl_c]; rfl
  have e1 := head_no (M := M) ok ht (by omega)
  have c1 : cutS (wr s) none (some 1) = "(" := str_ext (by
    have e4 : cutS (wr s) none (some 1) = cutS (wr s) none (some ((1 : Nat) : Int)) := rfl
    rw [e4, cut_to, ht, tl_o]; rfl)
  have c2 : cutS (wr s) (some (-1)) none = ")" := by rw [hs]; exact last_br
  have c3 : cutS (wr s) (some 1) (some (-1)) = wr a ++ " " ++ w ++ " " ++ wr b := by rw [hs]; exact cut_br
  have s1 := fun lo hi => sl_s (t := wr s) (lo := lo) (hi := hi) (M := M) (by omega)
  have hi' : decide ((2 : Int) < (i : Int)) = false := decide_eq_false (by omega)
  generalize wr a ++ " " ++ w ++ " " ++ wr b = t at *
  simp [B_sentence_in, hi', s1, e1, c1, c2, c3, eq_s, oko, okc, e3]
theorem sentence_in {n : Nat} {M : Sto} (hM : Cl M) (hn : 1 ≤ n) (hn3 : n ≤ 3) : ∀ (s : Sen) (L i : Nat), Small n s → dep s + i ≤ 2 → 2 * dep s + 8 ≤ L → S_sentence_in L [.str (wr s), .int i] M = .ok (enc s) M
  | .least w c, L, i, h, hd, hL => atom_rd (by omega) hn hn3 (by omega) h trivial
  | .rest w m r, L, i, h, hd, hL => atom_rd (by omega) hn hn3 (by omega) h trivial
  | .neg a, L, i, h, hd, hL => by
    obtain ⟨k, rfl⟩ : ∃ k, L = k + 2 := ⟨L - 2, by omega⟩
    unfold dep at hd hL
    have ih := sentence_in hM hn hn3 a (k + 1) (i + 1) h (by omega) (by omega)
    rw [S_sentence_in_eq, def_ap]
    have ok := (wr_seg hn (.neg a) 0 (by omega) h).1.ok
    have hl := small_len hn3 (s := .neg a) h (by unfold dep; omega)
    have ht : tl (wr (.neg a)) = [110, 111, 116, 32] ++ tl (wr a) := by
      have e : wr (.neg a) = "not " ++ wr a := rfl
      rw [e, tl_app, tl_not]
    have c1 : cutS (wr (.neg a)) none (some 4) = "not " := str_ext (by
      have e4 : cutS (wr (.neg a)) none (some 4) = cutS (wr (.neg a)) none (some ((4 : Nat) : Int)) := rfl
      rw [e4, cut_to, ht, tl_not]; rfl)
    have c2 : cutS (wr (.neg a)) (some 4) none = wr a := str_ext (by
      have e4 : cutS (wr (.neg a)) (some 4) none = cutS (wr (.neg a)) (some ((4 : Nat) : Int)) none := rfl
      rw [e4, cut_frm, ht]; rfl)
    have s1 := fun lo hi => sl_s (t := wr (.neg a)) (lo := lo) (hi := hi) (M := M) (by omega)
    have hi' : decide ((2 : Int) < (i : Int)) = false := decide_eq_false (by omega)
    have ei : ((i + 1 : Nat) : Int) = (i : Int) + 1 := by omega
    rw [ei] at ih
    have ne := non_enc (s := a) (M := M)
    simp [B_sentence_in, hi', s1, c1, c2, eq_s, okn, ih, ne, enc]
  | .con a b, L, i, h, hd, hL => by
    unfold dep at hd hL
    have ia := sentence_in hM hn hn3 a (L - 2) (i + 1) h.1 (by omega) (by omega)
    have ib := sentence_in hM hn hn3 b (L - 2) (i + 1) h.2 (by omega) (by omega)
    have ei : ((i + 1 : Nat) : Int) = (i : Int) + 1 := by omega
    rw [ei] at ia ib
    exact br_rd (by omega) hM hn hn3 (by omega) h (by unfold dep; omega) (by
      have e : wr (.con a b) = "(" ++ wr a ++ " " ++ "and" ++ " " ++ wr b ++ ")" := rfl
      rw [e]; simp only [app_assoc]) (both_in (by omega) hM hn hn3 (.inl rfl) h.1 h.2 (by omega) (by omega) ia ib)
  | .dis a b, L, i, h, hd, hL => by
    unfold dep at hd hL
    have ia := sentence_in hM hn hn3 a (L - 2) (i + 1) h.1 (by omega) (by omega)
    have ib := sentence_in hM hn hn3 b (L - 2) (i + 1) h.2 (by omega) (by omega)
    have ei : ((i + 1 : Nat) : Int) = (i : Int) + 1 := by omega
    rw [ei] at ia ib
    exact br_rd (by omega) hM hn hn3 (by omega) h (by unfold dep; omega) (by
      have e : wr (.dis a b) = "(" ++ wr a ++ " " ++ "or" ++ " " ++ wr b ++ ")" := rfl
      rw [e]; simp only [app_assoc]) (both_in (by omega) hM hn hn3 (.inr rfl) h.1 h.2 (by omega) (by omega) ia ib)
end K83

namespace K83
open PySem DL
open TL (tl)
theorem sortD_one {i : Int} : ∀ {l : List Int}, (∀ x ∈ l, x = i) → sortD l = [] ∨ sortD l = [i]
  | [], _ => .inl rfl
  | x :: l, h => by
    have hx := h x (by simp)
    subst hx
    have e : sortD (x :: l) = insS x (sortD l) := rfl
    rw [e]
    rcases sortD_one (l := l) (i := x) fun y hy => h y (by simp [hy]) with h | h
    · rw [h]; exact .inr rfl
    · rw [h]
      refine .inr ?_
      unfold insS
      simp
theorem ints_of : ∀ {l : List Int}, intsOf (l.map D.int) = some l
  | [] => rfl
  | x :: l => by rw [List.map_cons]; unfold intsOf; rw [ints_of]; rfl
theorem val_atom {n : Nat} : ∀ {s : Sen}, Val n s → ∀ a ∈ atoms s, Val n a ∧ isAtom a
  | .least w c, v, a, h => by simp [atoms] at h; subst h; exact ⟨v, trivial⟩
  | .rest w m r, v, a, h => by simp [atoms] at h; subst h; exact ⟨v, trivial⟩
  | .neg s, v, a, h => val_atom (s := s) v a h
  | .con s t, v, a, h => by
    rcases List.mem_append.mp h with h | h
    · exact val_atom v.1 a h
    · exact val_atom v.2 a h
  | .dis s t, v, a, h => by
    rcases List.mem_append.mp h with h | h
    · exact val_atom v.1 a h
    · exact val_atom v.2 a h
theorem cnt_le : ∀ s : Sen, cnt s ≤ sz s
  | .least _ _ => Nat.le_refl _
  | .rest _ _ _ => Nat.le_refl _
  | .neg a => by have := cnt_le a; unfold cnt sz; omega
  | .con a b => by have := cnt_le a; have := cnt_le b; unfold cnt sz; omega
  | .dis a b => by have := cnt_le a; have := cnt_le b; unfold cnt sz; omega
theorem read_sentence {n L : Nat} {s : Sen} {M : Sto} (hM : Cl M) (hn : 1 ≤ n) (hn3 : n ≤ 3) (h : Small n s) (hd : dep s ≤ 2) (hL : 14 ≤ L) : S_read_sentence L [.str (wr s)] M = .ok (enc s) M := by
  obtain ⟨k, rfl⟩ : ∃ k, L = k + 2 := ⟨L - 2, by omega⟩
  rw [S_read_sentence_eq, def_ap]
  have e1 := sentence_in hM hn hn3 s (k + 1) 0 h (by omega) (by omega)
  have h2 := sz_dep s
  have h3 : 2 ^ (dep s + 1) ≤ 2 ^ 3 := Nat.pow_le_pow_right (by omega) (by omega)
  have h4 : sz s ≤ 8 := by omega
  have h5 := cnt_le s
  have e2 := atoms_of (M := M) s (k + 1) (by omega) (by omega)
  have hv := val_atom (small_val h)
  have e3 := lc_map (g := mGN 2) (t := mYes) (e := mB fLen (mCons (mBin fIx (mVar 2) (mC (.int 1))) (mNil))) (Γ := [some (.str (wr s)), some (enc s), none]) (M := M) (c := enc) (r := fun _ => D.int n) (atoms s) fun a ha => ⟨[some (.str (wr s)), some (enc s), some (enc a)], by simp, by simp, by
    obtain ⟨v, i⟩ := hv a ha
    cases a with
    | least w c => have v : w.length = n := v; simp [enc, v, il]
    | rest w m r => have v : w.length = n := v.1; simp [enc, v, il]
    | neg _ => exact i.elim
    | con _ _ => exact i.elim
    | dis _ _ => exact i.elim⟩
  have e4 : DL.finL ((atoms s).map fun _ => D.int n) M = .ok (.int (sortD ((atoms s).map fun _ => (n : Int))).length) M := by
    have : (atoms s).map (fun _ => D.int n) = ((atoms s).map fun _ => (n : Int)).map D.int := by rw [List.map_map]; rfl
    unfold DL.finL
    rw [this, ints_of]
    dsimp only
    rw [if_pos (by rw [List.length_map, atoms_len]; omega)]
  have e5 : (sortD ((atoms s).map fun _ => (n : Int))).length ≤ 1 := by
    rcases sortD_one (i := (n : Int)) (l := (atoms s).map fun _ => (n : Int)) (fun x hx => by obtain ⟨_, _, rfl⟩ := List.mem_map.mp hx; rfl) with h | h
    · rw [h]; exact Nat.zero_le _
    · rw [h]; exact Nat.le_refl _
  have e6 : decide ((1 : Int) < ((sortD ((atoms s).map fun _ => (n : Int))).length : Int)) = false := decide_eq_false (by omega)
  have ne := non_enc (s := s) (M := M)
  generalize (sortD ((atoms s).map fun _ => (n : Int))).length = q at *
  generalize (atoms s).map (fun _ => D.int n) = ws at *
  simp at e1
  simp [B_read_sentence, e1, ne, e2, e3, e4, e6]
/-! ### the same -/
@[simp] theorem isi_tup {T : String} {ds : List D} {M : Sto} : isi T (.tup ds) M = .ok (isiB "tuple" T) M := rfl
theorem same_i {L : Nat} {i : Int} {M : Sto} (hL : 2 ≤ L) : S__law_same L [.int i, .int i] M = .ok (.bl true) M := by
  obtain ⟨k, rfl⟩ : ∃ k, L = k + 2 := ⟨L - 2, by omega⟩
  rw [S__law_same_eq, def_ap]
  simp [B__law_same, isiB, fIs, isNon]
theorem same_s {L : Nat} {x : Str} {M : Sto} (hL : 2 ≤ L) (h : PyData.strOk x = true) : S__law_same L [.str x, .str x] M = .ok (.bl true) M := by
  obtain ⟨k, rfl⟩ : ∃ k, L = k + 2 := ⟨L - 2, by omega⟩
  rw [S__law_same_eq, def_ap]
  simp [B__law_same, isiB, fIs, isNon, eq_s, h]
theorem same_t {k : Nat} {ds : List D} {M : Sto} (h : ∀ d ∈ ds, S__law_same (k + 1) [d, d] M = .ok (.bl true) M) : S__law_same (k + 2) [.tup ds, .tup ds] M = .ok (.bl true) M := by
  rw [S__law_same_eq, def_ap]
  have z : zipN [.tup ds, .tup ds] M = .ok (pairs ds ds, kT) M := zipN_of rfl rfl
  have hp : pairs ds ds = ds.map fun d => D.tup [d, d] := by unfold pairs; rw [List.zipWith_self]
  have e := lc_map (g := mGSeq 2 (mGCons (mGN 2) (mGCons (mGN 3) (mGNil)))) (t := mYes) (e := mCall 2 0 (S__law_same (k + 1)) gd__law_same_2 (mCons (mVar 2) (mCons (mVar 3) (mNil))) (mNil)) (Γ := [some (.tup ds), some (.tup ds), none, none]) (M := M) (c := fun d => D.tup [d, d]) (r := fun _ => D.bl true) ds fun d hd => ⟨[some (.tup ds), some (.tup ds), some d, some d], by simp, by simp, by simp [h d hd]⟩
  rw [← hp] at e
  have a := all_bools (M := M) (bs := ds.map fun _ => true)
  rw [List.map_map] at a
  have e2 : (ds.map fun _ => true).all id = true := by simp
  rw [e2] at a
  have e3 : ds.map (D.bl ∘ fun _ => true) = ds.map fun _ => D.bl true := rfl
  rw [e3] at a
  generalize ds.map (fun _ => D.bl true) = q at *
  simp [B__law_same, isiB, fIs, isNon, z, e, a]
theorem same_il {k : Nat} {w : List Int} {M : Sto} : S__law_same (k + 3) [.tup (il w), .tup (il w)] M = .ok (.bl true) M := same_t fun d hd => by
  unfold il at hd
  obtain ⟨x, _, rfl⟩ := List.mem_map.mp hd
  exact same_i (by omega)
theorem same_enc {M : Sto} : ∀ (s : Sen) (L : Nat), dep s + 6 ≤ L → S__law_same L [enc s, enc s] M = .ok (.bl true) M
  | .least w c, L, h => by
    obtain ⟨k, rfl⟩ : ∃ k, L = k + 2 := ⟨L - 2, by omega⟩
    unfold dep at h
    obtain ⟨j, rfl⟩ : ∃ j, k = j + 2 := ⟨k - 2, by omega⟩
    refine same_t fun d hd => ?_
    simp only [List.mem_cons, List.not_mem_nil, or_false] at hd
    rcases hd with rfl | rfl | rfl
    · exact same_s (by omega) ok_least
    · exact same_il
    · exact same_i (by omega)
  | .rest w m r, L, h => by
    obtain ⟨k, rfl⟩ : ∃ k, L = k + 2 := ⟨L - 2, by omega⟩
    unfold dep at h
    obtain ⟨j, rfl⟩ : ∃ j, k = j + 2 := ⟨k - 2, by omega⟩
    refine same_t fun d hd => ?_
    simp only [List.mem_cons, List.not_mem_nil, or_false] at hd
    rcases hd with rfl | rfl | rfl | rfl
    · exact same_s (by omega) ok_rest
    · exact same_il
    · exact same_i (by omega)
    · exact same_i (by omega)
  | .neg a, L, h => by
    obtain ⟨k, rfl⟩ : ∃ k, L = k + 2 := ⟨L - 2, by omega⟩
    unfold dep at h
    have ha := same_enc (M := M) a (k + 1) (by omega)
    refine same_t fun d hd => ?_
    simp only [List.mem_cons, List.not_mem_nil, or_false] at hd
    rcases hd with rfl | rfl
    · exact same_s (by omega) ok_not
    · exact ha
  | .con a b, L, h => by
    obtain ⟨k, rfl⟩ : ∃ k, L = k + 2 := ⟨L - 2, by omega⟩
    unfold dep at h
    have ha := same_enc (M := M) a (k + 1) (by omega)
    have hb := same_enc (M := M) b (k + 1) (by omega)
    refine same_t fun d hd => ?_
    simp only [List.mem_cons, List.not_mem_nil, or_false] at hd
    rcases hd with rfl | rfl | rfl
    · exact same_s (by omega) ok_and
    · exact ha
    · exact hb
  | .dis a b, L, h => by
    obtain ⟨k, rfl⟩ : ∃ k, L = k + 2 := ⟨L - 2, by omega⟩
    unfold dep at h
    have ha := same_enc (M := M) a (k + 1) (by omega)
    have hb := same_enc (M := M) b (k + 1) (by omega)
    refine same_t fun d hd => ?_
    simp only [List.mem_cons, List.not_mem_nil, or_false] at hd
    rcases hd with rfl | rfl | rfl
    · exact same_s (by omega) ok_or
    · exact ha
    · exact hb
/-! ### all signs are signs -/
theorem okL_lit (x : String) : okL (tl (Str.ofString x)) := by
  rw [TL.tl_ofString]
  intro c hc
  obtain ⟨ch, _, rfl⟩ := List.mem_map.mp hc
  have := ch.valid
  rcases this with h | h
  · have h : ch.val.toNat < 55296 := h
    show ch.val.toNat < 1114112
    omega
  · exact h.2
theorem okL_join {y : Str} (hy : okL (tl y)) : ∀ {ps : List Str}, (∀ p ∈ ps, okL (tl p)) → okL (tl (Str.join y ps)) := fun {ps} h => by
  rw [TL.tl_join]
  intro c hc
  rcases joinL_mem hc with hc | ⟨p, hp, hc⟩
  · exact hy c hc
  · obtain ⟨z, hz, rfl⟩ := List.mem_map.mp hp
    exact h z hz c hc
theorem okL_ws {w : List Int} : okL (tl (Str.join "," (w.map sI))) := okL_join (okL_lit ",") fun p hp => by
  obtain ⟨x, _, rfl⟩ := List.mem_map.mp hp
  exact okL_lit _
theorem okL_wr : ∀ s : Sen, okL (tl (wr s))
  | .least w c => okL_join (okL_lit " ") fun p hp => by
    simp only [List.mem_cons, List.not_mem_nil, or_false] at hp
    rcases hp with rfl | rfl | rfl
    · exact okL_lit _
    · exact okL_ws
    · exact okL_lit _
  | .rest w m r => okL_join (okL_lit " ") fun p hp => by
    simp only [List.mem_cons, List.not_mem_nil, or_false] at hp
    rcases hp with rfl | rfl | rfl | rfl
    · exact okL_lit _
    · exact okL_ws
    · exact okL_lit _
    · exact okL_lit _
  | .neg a => by
    have e : wr (.neg a) = "not " ++ wr a := rfl
    rw [e, tl_app]
    exact okL_app (okL_lit _) (okL_wr a)
  | .con a b => by
    have e : wr (.con a b) = "(" ++ wr a ++ " " ++ "and" ++ " " ++ wr b ++ ")" := rfl
    rw [e]
    simp only [tl_app]
    exact okL_app (okL_app (okL_app (okL_app (okL_app (okL_app (okL_lit _) (okL_wr a)) (okL_lit _)) (okL_lit _)) (okL_lit _)) (okL_wr b)) (okL_lit _)
  | .dis a b => by
    have e : wr (.dis a b) = "(" ++ wr a ++ " " ++ "or" ++ " " ++ wr b ++ ")" := rfl
    rw [e]
    simp only [tl_app]
    exact okL_app (okL_app (okL_app (okL_app (okL_app (okL_app (okL_lit _) (okL_wr a)) (okL_lit _)) (okL_lit _)) (okL_lit _)) (okL_wr b)) (okL_lit _)
theorem same_wr {L : Nat} {s : Sen} {M : Sto} (hL : 2 ≤ L) : S__law_same L [.str (wr s), .str (wr s)] M = .ok (.bl true) M := same_s hL (ok_of (okL_wr s))
end K83

namespace K83
open PySem DL
theorem cut_il {ns : List Int} {k : Nat} : cutD (il ns) none (some (k : Int)) = il (ns.take k) := by
  unfold cutD
  rw [sIx_n]
  show ((il ns).drop 0).take (min k (il ns).length - 0) = _
  rw [List.drop_zero, Nat.sub_zero]
  unfold il
  rw [← List.map_take, List.length_map]
  congr 1
  rw [List.take_eq_take_iff]
  omega
theorem law_jar {L : Nat} {ns : List Int} (hL : 4 ≤ L) : ∃ s, S__law_jar L [.scr (ns.map D.int)] [] = .ok (.ref 1) (JM (ns.take 63) 0 s 0) := by
  obtain ⟨k, rfl⟩ : ∃ k, L = k + 2 := ⟨L - 2, by omega⟩
  rw [S__law_jar_eq, def_ap]
  have hc : cutD (ns.map D.int) none (some 63) = il (ns.take 63) := cut_il (k := 63)
  have sl : fSl (.scr (ns.map D.int)) none (some 63) [] = .ok (.lst (il (ns.take 63))) [] := by
    show optR ((seqOf [] (D.scr (ns.map D.int))).map fun ds => .lst (cutD ds none (some 63))) [] = _
    rw [sq_scr, Option.map_some, hc]
    rfl
  obtain ⟨Γ', M', e, b, s, rfl, rfl⟩ := for_inv (g := mGN 2) (M := []) (ds := il (ns.take 63)) (Γ := [some (.scr (ns.map D.int)), some (.int 4907000000000229), none])
    (body := (mAsg (mCall 1 0 (S__law_mix (k + 1)) gd__law_mix_1 (mCons (mBin fMod (mBin fAdd (mBin fMul (mVar 1) (mC (.int 5))) (mVar 2)) (mC (.int 18446744073709551616))) (mNil)) (mNil)) (mGN 1)))
    (I := fun i Γ M1 => ∃ (b : Option D) (s : Int), Γ = [some (.scr (ns.map D.int)), some (.int s), b] ∧ M1 = [])
    ⟨none, _, rfl, rfl⟩ fun i x Γ M1 hx ⟨b, s, hΓ, hM1⟩ => by
      subst hΓ hM1
      unfold il at hx
      rw [List.getElem?_map] at hx
      obtain ⟨z, _, rfl⟩ := Option.map_eq_some_iff.mp hx
      have m5 : ∀ M, fMul (.int s) (.int 5) M = .ok (.int (s * 5)) M := fun M => mul_r (by omega)
      have md : ∀ (x : Int) M, fMod (.int x) (.int 18446744073709551616) M = .ok (.int (x % 18446744073709551616)) M := fun x M => mod_i (by omega)
      have mx : ∀ (x : Int) M, S__law_mix (k + 1) [.int x] M = .ok (.int (mix x)) M := fun x M => law_mix (by omega)
      exact ⟨[some (.scr (ns.map D.int)), some (.int s), some (.int z)], [], _, [], by simp, .inl (by simp [m5, md, mx]; rfl), some (.int z), _, rfl, rfl⟩
  refine ⟨s, ?_⟩
  have fl : fListM [.lst (il (ns.take 63))] [] = .ok (.ref 0) [.lst (il (ns.take 63))] := rfl
  unfold JM
  generalize il (ns.take 63) = ws at *
  have dt : dictT [(.str "cells", .ref 0), (.str "rest", .int 0), (.str "seed", .int s), (.str "turn", .int 0)] [.lst ws] = .ok (.ref 1) [.lst ws, .dk KS [.ref 0, .int 0, .int s, .int 0]] := by
    unfold dictT
    show (if _ then _ else _) = _
    rw [if_pos (by decide +kernel)]
    rfl
  simp [B__law_jar, sl, e]
  rw [fl]
  simp [dt]
  rfl
end K83

namespace K83
open PySem DL
/-! ### the plain sentence is not great -/
theorem small_nice {n : Nat} : ∀ {s : Sen}, Small n s → Nice s
  | .least w c, h => fun x hx => by have := h.2.1 x hx; omega
  | .rest w m r, h => ⟨fun x hx => by have := h.2.1 x hx; omega, by have := h.2.2.1; omega, by have := h.2.2.1; omega⟩
  | .neg a, h => small_nice (s := a) h
  | .con a b, h => ⟨small_nice h.1, small_nice h.2⟩
  | .dis a b, h => ⟨small_nice h.1, small_nice h.2⟩
theorem small_atoms {n : Nat} : ∀ {s : Sen}, Small n s → ∀ a ∈ atoms s, Small n a ∧ isAtom a
  | .least w c, v, a, h => by simp [atoms] at h; subst h; exact ⟨v, trivial⟩
  | .rest w m r, v, a, h => by simp [atoms] at h; subst h; exact ⟨v, trivial⟩
  | .neg s, v, a, h => small_atoms (s := s) v a h
  | .con s t, v, a, h => by
    rcases List.mem_append.mp h with h | h
    · exact small_atoms v.1 a h
    · exact small_atoms v.2 a h
  | .dis s t, v, a, h => by
    rcases List.mem_append.mp h with h | h
    · exact small_atoms v.1 a h
    · exact small_atoms v.2 a h
theorem one_5 {n : Nat} : ∀ {a : Sen}, Small n a → one a ≤ 5
  | .least _ _, _ => by show 1 ≤ 5; omega
  | .rest w m r, h => by
    show m.natAbs / _ ≤ 5
    refine Nat.le_trans (Nat.div_le_self _ _) ?_
    have := h.2.2.1
    omega
  | .neg _, _ => by show 1 ≤ 5; omega
  | .con _ _, _ => by show 1 ≤ 5; omega
  | .dis _ _, _ => by show 1 ≤ 5; omega
theorem foldl_5 : ∀ (as : List Sen) (f : Nat), (∀ a ∈ as, one a ≤ 5) → as.foldl (fun f a => Nat.lcm f (one a)) f ≤ f * 5 ^ as.length
  | [], f, _ => by simp
  | a :: as, f, h => by
    rw [List.foldl_cons]
    refine Nat.le_trans (foldl_5 as _ fun x hx => h x (by simp [hx])) ?_
    have h1 : Nat.lcm f (one a) ≤ f * 5 := by
      unfold Nat.lcm
      exact Nat.le_trans (Nat.div_le_self _ _) (Nat.mul_le_mul_left _ (h a (by simp)))
    rw [List.length_cons, Nat.pow_succ, Nat.mul_comm (5 ^ as.length) 5, ← Nat.mul_assoc]
    exact Nat.mul_le_mul_right _ h1
theorem whl_25 {n : Nat} {s : Sen} (h : Small n s) (hc : cnt s ≤ 2) : whl (atoms s) ≤ 25 := by
  have h1 := foldl_5 (atoms s) 1 fun a ha => one_5 (small_atoms h a ha).1
  have h2 : 5 ^ (atoms s).length ≤ 5 ^ 2 := Nat.pow_le_pow_right (by omega) (by rw [atoms_len]; exact hc)
  have e : (5 : Nat) ^ 2 = 25 := rfl
  unfold whl
  omega
theorem told_len {n f : Nat} {s : Sen} : ∀ {as : List Sen}, (toldL n s f as).length = f + (as.flatMap (putsA f)).length := by
  intro as
  unfold toldL heads0
  rw [List.length_append, List.length_map, List.length_range]
  congr 1
  induction as with
  | nil => rfl
  | cons a as ih => simp [List.flatMap_cons, ih]
theorem flat_le {α β : Type} {r : α → List β} {n : Nat} : ∀ (xs : List α), (∀ x ∈ xs, (r x).length ≤ n) → (xs.flatMap r).length ≤ xs.length * n
  | [], _ => by simp
  | x :: xs, h => by
    rw [List.flatMap_cons, List.length_append, List.length_cons, Nat.succ_mul]
    have := h x (by simp)
    have := flat_le xs fun y hy => h y (by simp [hy])
    omega
theorem last3 {w : List Int} (h : Wt3 w) : (w.getLast?.getD 0).natAbs ≤ 3 := by
  cases hl : w.getLast? with
  | none => simp
  | some l =>
    have := h l (List.mem_of_getLast? hl)
    simp; omega
theorem putsA_le {n f : Nat} {a : Sen} (h : Small n a) : (putsA f a).length ≤ 3 * f := by
  cases a with
  | least w b =>
    have h3 := last3 h.2.1
    have e : putsA f (.least w b) = putsL w.dropLast (w.getLast?.getD 0) b f := rfl
    rw [e, putsL_len]
    exact Nat.mul_le_mul_right _ h3
  | _ => simp [putsA]
theorem told_175 {n : Nat} {s s' : Sen} (h : Small (n + 1) s) (hc : cnt s ≤ 2) : (toldL n s' (whl (atoms s)) ((atoms s).filter brk)).length ≤ 175 := by
  have hw := whl_25 h hc
  have h1 := flat_le (r := putsA (whl (atoms s))) (n := 75) ((atoms s).filter brk) fun a ha => by
    have := putsA_le (f := whl (atoms s)) (small_atoms h a (List.mem_filter.mp ha).1).1
    omega
  have h2 : ((atoms s).filter brk).length ≤ 2 := by
    have := List.length_filter_le brk (atoms s)
    rw [atoms_len] at this
    omega
  rw [told_len]
  have h3 : ((atoms s).filter brk).length * 75 ≤ 2 * 75 := Nat.mul_le_mul_right _ h2
  omega
theorem abs_mul {a b : Int} {x y : Nat} (h : a.natAbs ≤ x) (k : b.natAbs ≤ y) : (a * b).natAbs ≤ x * y := by
  rw [Int.natAbs_mul]
  exact Nat.mul_le_mul h k
theorem wIn_bd {sl w : List Int} {pa : Int} (hs : ∀ x ∈ sl, x.natAbs ≤ 3) (hp : pa.natAbs ≤ 3) (hw : Wt3 w) : ∀ x ∈ wIn sl pa w, x.natAbs ≤ 1000 := by
  intro x hx
  unfold wIn at hx
  obtain ⟨p, hp1, rfl⟩ := List.mem_map.mp hx
  have h1 := List.of_mem_zip hp1
  have h2 := hw p.1 (List.dropLast_subset _ h1.1)
  have h3 := hs p.2 h1.2
  have h4 := abs_mul (x := 3) (y := 3) hp (show p.1.natAbs ≤ 3 by omega)
  have h5 := abs_mul (x := 3) (y := 3) (last3 hw) h3
  omega
theorem put_bd {n : Nat} {sl : List Int} {st pa : Int} (hs : ∀ x ∈ sl, x.natAbs ≤ 3) (hst : st.natAbs ≤ 150) (hp : 1 ≤ pa ∧ pa ≤ 3) : ∀ {s : Sen}, Small n s → Bd 1000 (put sl st pa s) ∧ sz (put sl st pa s) = sz s
  | .least w c, h => by
    have hp' : pa.natAbs ≤ 3 := by omega
    have h1 := abs_mul (a := pa) (b := c) (x := 3) (y := 4) hp' (by have := h.2.2; omega)
    have h2 := abs_mul (b := st) (x := 3) (y := 150) (last3 h.2.1) hst
    exact ⟨⟨wIn_bd hs hp' h.2.1, by omega⟩, rfl⟩
  | .rest w m r, h => by
    have hp' : pa.natAbs ≤ 3 := by omega
    obtain ⟨m1, m2⟩ := h.2.2.1
    have h1 := abs_mul (a := pa) (b := m) (x := 3) (y := 5) hp' (by omega)
    have hpos : 0 < pa * m := Int.mul_pos (by omega) (by omega)
    have h2 := Int.emod_nonneg (pa * r - w.getLast?.getD 0 * st) (show pa * m ≠ 0 by omega)
    have h3 := Int.emod_lt_of_pos (pa * r - w.getLast?.getD 0 * st) hpos
    exact ⟨⟨wIn_bd hs hp' h.2.1, by omega, by omega⟩, rfl⟩
  | .neg a, h => by
    have ih := put_bd hs hst hp (s := a) h
    exact ⟨ih.1, by simp only [put, sz, ih.2]⟩
  | .con a b, h => by
    have ih := put_bd hs hst hp h.1
    have ih' := put_bd hs hst hp h.2
    exact ⟨⟨ih.1, ih'.1⟩, by simp only [put, sz, ih.2, ih'.2]⟩
  | .dis a b, h => by
    have ih := put_bd hs hst hp h.1
    have ih' := put_bd hs hst hp h.2
    exact ⟨⟨ih.1, ih'.1⟩, by simp only [put, sz, ih.2, ih'.2]⟩
structure PS (p : PI) : Prop where
  sl : ∀ x ∈ p.sl, x.natAbs ≤ 3
  st : p.st.natAbs ≤ 150
  pa : 1 ≤ p.pa ∧ p.pa ≤ 3
  w : Bd 1000 p.w
  z : sz p.w = 1
theorem putsA_ps {n f : Nat} {a : Sen} (h : Small n a) (hf : f ≤ 25) : ∀ p ∈ putsA f a, PS p := by
  intro p hp
  cases a with
  | least w b =>
    have h3 := last3 h.2.1
    have e : putsA f (.least w b) = putsL w.dropLast (w.getLast?.getD 0) b f := rfl
    rw [e] at hp
    have hfore : ∀ x ∈ w.dropLast, x.natAbs ≤ 3 := fun x hx => by have := h.2.1 x (List.dropLast_subset _ hx); omega
    have hb := h.2.2
    generalize w.dropLast = fore at *
    generalize w.getLast?.getD 0 = last at *
    unfold putsL putsB at hp
    obtain ⟨r, hr, hp⟩ := List.mem_flatMap.mp hp
    unfold pits at hp
    obtain ⟨i, hi, rfl⟩ := List.mem_map.mp hp
    rw [List.mem_range] at hr hi
    have hl : 1 ≤ (last.natAbs : Int) ∧ (last.natAbs : Int) ≤ 3 := by omega
    have hm := abs_mul (a := (last.natAbs : Int)) (b := 0 + (i : Int)) (x := 3) (y := 25) (by omega) (by omega)
    have hm2 := abs_mul (a := (last.natAbs : Int)) (b := 0 + (i : Int) + 1) (x := 3) (y := 25) (by omega) (by omega)
    have hw : Bd 1000 (.rest fore last.natAbs ((b + (0 + (r : Int))) % last.natAbs)) := by
      have h2 := Int.emod_nonneg (b + (0 + (r : Int))) (show (last.natAbs : Int) ≠ 0 by omega)
      have h4 := Int.emod_lt_of_pos (b + (0 + (r : Int))) (show (0 : Int) < last.natAbs by omega)
      exact ⟨fun x hx => by have := hfore x hx; omega, by omega, by omega⟩
    unfold pit
    split
    · exact ⟨fun x hx => by obtain ⟨y, hy, rfl⟩ := List.mem_map.mp hx; have := hfore y hy; omega, by show (b + _ + _).natAbs ≤ 150; omega, hl, hw, rfl⟩
    · exact ⟨hfore, by show (_ - b - _).natAbs ≤ 150; omega, hl, hw, rfl⟩
  | _ => simp [putsA] at hp
theorem told_bd {n : Nat} {s s' : Sen} (h : Small (n + 1) s) (h' : Small (n + 1) s') (hc : cnt s ≤ 2) : ∀ t ∈ toldL n s' (whl (atoms s)) ((atoms s).filter brk), Bd 1000 t ∧ sz t ≤ sz s' + 4 := by
  have hw := whl_25 h hc
  intro t ht
  unfold toldL heads0 at ht
  rcases List.mem_append.mp ht with ht | ht
  · obtain ⟨i, hi, rfl⟩ := List.mem_map.mp ht
    rw [List.mem_range] at hi
    have := put_bd (sl := List.replicate n 0) (st := 0 + (i : Int)) (pa := 1) (fun x hx => by rw [List.eq_of_mem_replicate hx]; decide) (by omega) (by omega) h'
    exact ⟨this.1, by omega⟩
  · obtain ⟨a, ha, ht⟩ := List.mem_flatMap.mp ht
    obtain ⟨p, hp, rfl⟩ := List.mem_map.mp ht
    have ps := putsA_ps (small_atoms h a (List.mem_filter.mp ha).1).1 hw p hp
    have := put_bd ps.sl ps.st ps.pa h'
    refine ⟨⟨ps.w, ⟨fun x hx => by have := ps.sl x hx; omega, by have := ps.st; omega⟩, this.1⟩, ?_⟩
    have hz := ps.z
    show sz p.w + (1 + sz (put p.sl p.st p.pa s') + 1) + 1 ≤ _
    omega
theorem bd_atoms {K : Nat} : ∀ {s : Sen}, Bd K s ↔ ∀ a ∈ atoms s, Bd K a
  | .least w c => by simp [atoms]
  | .rest w m r => by simp [atoms]
  | .neg a => bd_atoms (s := a)
  | .con a b => by
    show (Bd K a ∧ Bd K b) ↔ _
    rw [bd_atoms (s := a), bd_atoms (s := b)]
    simp only [atoms, List.mem_append]
    exact ⟨fun h x hx => hx.elim (h.1 x) (h.2 x), fun h => ⟨fun x hx => h x (.inl hx), fun x hx => h x (.inr hx)⟩⟩
  | .dis a b => by
    show (Bd K a ∧ Bd K b) ↔ _
    rw [bd_atoms (s := a), bd_atoms (s := b)]
    simp only [atoms, List.mem_append]
    exact ⟨fun h x hx => hx.elim (h.1 x) (h.2 x), fun h => ⟨fun x hx => h x (.inl hx), fun x hx => h x (.inr hx)⟩⟩
def tot (ss : List Sen) : Nat := (ss.map fun s => sz s + 1).sum
theorem half_tot : ∀ {ss : List Sen}, tot (half ss) = tot ss
  | [] => rfl
  | [a] => by
    unfold half
    rw [step1_one]
    simp
  | a :: b :: l => by
    have ih := half_tot (ss := l)
    rw [half_cons]
    unfold tot at ih ⊢
    simp only [List.map_cons, List.sum_cons, ih]
    show sz a + sz b + 1 + 1 + _ = _
    omega
theorem halves_tot : ∀ (j : Nat) {ss : List Sen}, tot (halves j ss) = tot ss
  | 0, _ => rfl
  | j + 1, ss => by
    unfold halves
    split
    · rw [halves_tot j, half_tot]
    · rfl
theorem tot_le {k : Nat} : ∀ {ss : List Sen}, (∀ t ∈ ss, sz t ≤ k) → tot ss ≤ ss.length * (k + 1)
  | [], _ => by simp [tot]
  | s :: ss, h => by
    have ih := tot_le (k := k) (ss := ss) fun t ht => h t (by simp [ht])
    have := h s (by simp)
    unfold tot at ih ⊢
    rw [List.map_cons, List.sum_cons, List.length_cons, Nat.succ_mul]
    omega
theorem ok_some : PyData.strOk (Str.ofString "some") = true := by decide +kernel
theorem ok_all : PyData.strOk (Str.ofString "all") = true := by decide +kernel
theorem all_ne : (Str.ofString "all" = Str.ofString "some") = False := by simp only [eq_iff_iff, iff_false]; decide +kernel
def sgt (x : Str) (s : Sen) : Sen := if x = "some" then s else .neg s
theorem plainly {n L : Nat} {s : Sen} {x : Str} {M : Sto} (hx : x = "some" ∨ x = "all") (hL : 20 ≤ L) (h : Small (n + 1) s) (hc : cnt s ≤ 2) (hd : dep s ≤ 1) (hn1 : 1 ≤ n) (hn : n ≤ 2) (hM : Cl M) :
    ∃ r, S_plainly L [.tup [.str x, enc s]] M = .ok (enc r) M ∧ Val n r ∧ dep r ≤ 13 ∧ Bd 1000 r ∧ sz r ≤ 2500 := by
  obtain ⟨j, rfl⟩ : ∃ k, L = k + 2 := ⟨L - 2, by omega⟩
  rw [S_plainly_eq, def_ap]
  have e1 : S_sought_by (j + 1) [.tup [.str x, enc s]] M = .ok (enc (sgt x s)) M := sought (by omega) hx
  have hs : Small (n + 1) (sgt x s) ∧ cnt (sgt x s) ≤ 2 ∧ dep (sgt x s) ≤ 2 ∧ atoms (sgt x s) = atoms s := by
    unfold sgt
    split
    · exact ⟨h, hc, by omega, rfl⟩
    · exact ⟨h, hc, by show dep s + 1 ≤ 2; omega, rfl⟩
  obtain ⟨h1, h2, h3, h4⟩ := hs
  have hwl := whl_25 h hc
  have hlen := told_175 (s' := sgt x s) h hc
  obtain ⟨r, e2, vr, dr, hr⟩ := plainly_some (J := 8) (L := j + 1) (M := M) (by omega) (small_val h1) (small_nice h1) (by omega) (by omega) hn1 (by omega) hM (by rw [h4]; omega) (by omega) (by rw [h4]; exact Nat.le_trans hlen (by decide))
  rw [h4] at hr
  have hb := told_bd (s' := sgt x s) h h1 hc
  have hz := sz_dep (sgt x s)
  have hz2 : 2 ^ (dep (sgt x s) + 1) ≤ 2 ^ 3 := Nat.pow_le_pow_right (by omega) (by omega)
  have ht := halves_tot 8 (ss := toldL n (sgt x s) (whl (atoms s)) ((atoms s).filter brk))
  have hf := halves_flat 8 (ss := toldL n (sgt x s) (whl (atoms s)) ((atoms s).filter brk))
  generalize toldL n (sgt x s) (whl (atoms s)) ((atoms s).filter brk) = T at *
  have ht2 := tot_le (k := 11) (ss := T) fun t ht => by have := (hb t ht).2; omega
  have hbr : Bd 1000 r := bd_atoms.mpr fun a ha => by
    rw [hr] at hf
    have : a ∈ T.flatMap atoms := by rw [← hf]; simpa using ha
    obtain ⟨t, ht, hat⟩ := List.mem_flatMap.mp this
    exact bd_atoms.mp (hb t ht).1 a hat
  have hsr : sz r ≤ 2400 := by
    rw [hr] at ht
    have e : tot [r] = sz r + 1 := by simp [tot]
    have : T.length * 12 ≤ 175 * 12 := Nat.mul_le_mul_right _ hlen
    omega
  rcases hx with rfl | rfl
  · refine ⟨r, ?_, vr, by omega, hbr, by omega⟩
    simp [B_plainly, e1, e2, eq_s, ok_some]
  · refine ⟨.neg r, ?_, vr, by show dep r + 1 ≤ 13; omega, hbr, by show sz r + 1 ≤ 2500; omega⟩
    simp [B_plainly, e1, e2, eq_s, ok_some, ok_all, all_ne, enc]
end K83

namespace K83
open PySem DL
abbrev RB (k : Nat) : MS := (mSeq (mAsg (mCall 3 0 (S__law_sentence k) gd__law_sentence_3 (mCons (mVar 1) (mCons (mBin fAdd (mC (.int 1)) (mCall 2 0 (S__law_pick k) gd__law_pick_2 (mCons (mVar 1) (mCons (mC (.int 3)) (mNil))) (mNil))) (mCons (mC (.int 2)) (mNil)))) (mNil)) (mGN 3)) <| mSeq (mAsg (mCall 1 0 (S__law_written k) gd__law_written_1 (mCons (mVar 3) (mNil)) (mNil)) (mGN 4)) <| mIfS (mOrT (mNotT (mTru (mCall 2 0 (S__law_same k) gd__law_same_2 (mCons (mCall 1 0 (S_show_sentence k) gd_show_sentence_1 (mCons (mVar 3) (mNil)) (mNil)) (mCons (mVar 4) (mNil))) (mNil)))) (mNotT (mTru (mCall 2 0 (S__law_same k) gd__law_same_2 (mCons (mCall 1 0 (S_read_sentence k) gd_read_sentence_1 (mCons (mVar 4) (mNil)) (mNil)) (mCons (mVar 3) (mNil))) (mNil))))) (mRet (mC (.bl false))) (mPass))
theorem small_z {n : Nat} {s : Sen} (hd : dep s ≤ 2) : sz s * (5 * 10 + 30) ≤ 16000000 := by
  have h2 := sz_dep s
  have h3 : 2 ^ (dep s + 1) ≤ 2 ^ 3 := Nat.pow_le_pow_right (by omega) (by omega)
  omega
theorem one_round {k : Nat} {z a b c e f : Option D} {M : Sto} (hk : 30 ≤ k) (h : IsJ M) : ∃ (b' c' : Option D) (M' : Sto), RB k [z, some (.ref 1), a, b, c, e, f] M = .nx [z, some (.ref 1), a, b', c', e, f] M' ∧ IsJ M' := by
  obtain ⟨d, M1, e1, h1, d0, d1⟩ := pk (L := k) (by omega) h (m := 3) (by omega) (by omega)
  obtain ⟨n, rfl⟩ : ∃ n : Nat, d = (n : Int) := ⟨d.toNat, by omega⟩
  obtain ⟨s, M2, e2, h2, hs, hd, hc⟩ := sentence_ev (n := n + 1) (by omega) 2 k M1 (by omega) (by omega) h1
  have en : (1 : Int) + (n : Int) = ((n + 1 : Nat) : Int) := by omega
  have e3 := written_ev (n := n + 1) (K := 10) (M := M2) (by omega) (by omega) s k (small_val hs) (small_bd hs) (by omega) (small_z (n := n) hd)
  have e4 := show_ev (n := n + 1) (K := 10) (M := M2) (by omega) (by omega) s k (small_val hs) (small_bd hs) (by omega) (small_z (n := n) hd)
  have e5 := read_sentence (n := n + 1) (L := k) (M := M2) h2.cl (by omega) (by omega) hs hd (by omega)
  have e6 := same_wr (L := k) (s := s) (M := M2) (by omega)
  have e7 := same_enc (M := M2) s k (by omega)
  have e2 : S__law_sentence k [.ref 1, .int ((n + 1 : Nat) : Int), .int 2] M1 = .ok (enc s) M2 := e2
  rw [← en] at e2
  refine ⟨some (enc s), some (.str (wr s)), M2, ?_, h2⟩
  simp [RB, e1, e2, e3, e4, e5, e6, e7]
theorem trim_ex {d : D} {M : Sto} {n : Nat} : ∃ M', (Res.ok d M).trim n = .ok d M' := by
  unfold Res.trim
  dsimp only
  split
  · exact ⟨_, rfl⟩
  · exact ⟨_, rfl⟩
theorem law_true : ∀ ns : List Int, ns.length ≤ 63 → (∀ z ∈ ns, Builtin.Int.intBits z ≤ 1048576) → ∃ M, S_law 60 [.scr (ns.map D.int)] [] = .ok (.bl true) M := by
  intro ns _ _
  show ∃ M, S_law (58 + 2) _ _ = _
  rw [S_law_eq, def_ap]
  obtain ⟨s0, e0⟩ := law_jar (L := 59) (ns := ns) (by omega)
  obtain ⟨Γ', M1, e1, h1, a, b, c, rfl⟩ := for_inv (g := mGN 2) (ds := DL.upTo 0 8) (body := RB 59) (Γ := [some (.scr (ns.map D.int)), some (.ref 1), none, none, none, none, none]) (M := JM (ns.take 63) 0 s0 0)
    (I := fun i Γ M => IsJ M ∧ ∃ a b c : Option D, Γ = [some (.scr (ns.map D.int)), some (.ref 1), a, b, c, none, none])
    ⟨⟨_, _, _, _, rfl⟩, none, none, none, rfl⟩ fun i x Γ M hx ⟨hM, a, b, c, hΓ⟩ => by
      subst hΓ
      obtain ⟨b', c', M', e, h'⟩ := one_round (k := 59) (z := some (.scr (ns.map D.int))) (a := some x) (b := b) (c := c) (e := none) (f := none) (by omega) hM
      exact ⟨[some (.scr (ns.map D.int)), some (.ref 1), some x, b, c, none, none], M, _, M', by simp, .inl e, h', some x, b', c', rfl⟩
  obtain ⟨d2, M2, e2, h2, p0, p1⟩ := pk (L := 59) (by omega) h1 (m := 2) (by omega) (by omega)
  obtain ⟨d3, M3, e3, h3, q0, q1⟩ := pk (L := 59) (by omega) h2 (m := 2) (by omega) (by omega)
  obtain ⟨d4, M4, e4, h4, r0, r1⟩ := pk (L := 59) (by omega) h3 (m := 2) (by omega) (by omega)
  obtain ⟨n, rfl⟩ : ∃ n : Nat, d3 = (n : Int) := ⟨d3.toNat, by omega⟩
  obtain ⟨w, rfl⟩ : ∃ n : Nat, d4 = (n : Int) := ⟨d4.toNat, by omega⟩
  obtain ⟨s, M5, e5, h5, hs, hd, hc⟩ := sentence_ev (n := n + 2) (by omega) w 59 M4 (by omega) (by omega) h4
  have en : (2 : Int) + (n : Int) = ((n + 2 : Nat) : Int) := by omega
  rw [← en] at e5
  have hc2 : cnt s ≤ 2 := by
    have : 2 ^ w ≤ 2 ^ 1 := Nat.pow_le_pow_right (by omega) (by omega)
    omega
  obtain ⟨x, hx, ex⟩ : ∃ x : Str, (x = "some" ∨ x = "all") ∧ optR (L2.atI [D.str "some", D.str "all"] d2) M2 = .ok (.str x) M2 := by
    have : d2 = 0 ∨ d2 = 1 := by omega
    rcases this with rfl | rfl
    · exact ⟨"some", .inl rfl, rfl⟩
    · exact ⟨"all", .inr rfl, rfl⟩
  obtain ⟨r, e6, vr, dr, br, zr⟩ := plainly (n := n + 1) (L := 59) (M := M5) hx (by omega) hs hc2 (by omega) (by omega) (by omega) h5.cl
  have hz : sz r * (5 * 1000 + 30) ≤ 16000000 := by omega
  have e7 := written_ev (n := n + 1) (K := 1000) (M := M5) (by omega) (by omega) r 59 vr br (by omega) hz
  have e8 := show_ev (n := n + 1) (K := 1000) (M := M5) (by omega) (by omega) r 59 vr br (by omega) hz
  have e9 := same_wr (L := 59) (s := r) (M := M5) (by omega)
  simp only [RB] at e1
  simp [B_law, e0, e1, e2, ex, e3, e4, e5, e6, e7, e8, e9]
  exact trim_ex
end K83

namespace K83
open PySem PySem.Spec PyProof.Rows L2 DL
theorem all_mk {l : PySem.W.OpenLaw} {w : World} {K : PySem.W.Frag} {h : Heap} {mg : Str → Option Value} {fa : Addr} {a_many_of a_atoms_of a_show_sentence a_number_in a_simple_in a_places_between a_both_in a_sentence_in a_read_sentence a_common_part a_wheel_of a_breaking a_sought_by a_Put_init a_Put_weights_in a_Put_into a_Put_is_number a_puts_at a_any_of a_plainly_some a_plainly a__law_mix a__law_jar a__law_pick a__law_simple a__law_sentence a__law_written a__law_same a_law C_Put : Addr} (X : K.In h) (G : h.Ns mainGlobals mg) (hfa : mg "law" = some (.ref fa))
    {oc_many_of kV_many_of doc_many_of pm_many_of cd_many_of ct_many_of : Value} {od_many_of an_many_of : Option Addr} {sl_many_of : Array (Option Value)}
    {oc_atoms_of kV_atoms_of doc_atoms_of pm_atoms_of cd_atoms_of ct_atoms_of : Value} {od_atoms_of an_atoms_of : Option Addr} {sl_atoms_of : Array (Option Value)}
    {oc_show_sentence kV_show_sentence doc_show_sentence pm_show_sentence cd_show_sentence ct_show_sentence : Value} {od_show_sentence an_show_sentence : Option Addr} {sl_show_sentence : Array (Option Value)}
    {oc_number_in kV_number_in doc_number_in pm_number_in cd_number_in ct_number_in : Value} {od_number_in an_number_in : Option Addr} {sl_number_in : Array (Option Value)}
    {oc_simple_in kV_simple_in doc_simple_in pm_simple_in cd_simple_in ct_simple_in : Value} {od_simple_in an_simple_in : Option Addr} {sl_simple_in : Array (Option Value)}
    {oc_places_between kV_places_between doc_places_between pm_places_between cd_places_between ct_places_between : Value} {od_places_between an_places_between : Option Addr} {sl_places_between : Array (Option Value)}
    {oc_both_in kV_both_in doc_both_in pm_both_in cd_both_in ct_both_in : Value} {od_both_in an_both_in : Option Addr} {sl_both_in : Array (Option Value)}
    {oc_sentence_in kV_sentence_in doc_sentence_in pm_sentence_in cd_sentence_in ct_sentence_in : Value} {od_sentence_in an_sentence_in : Option Addr} {sl_sentence_in : Array (Option Value)}
    {oc_read_sentence kV_read_sentence doc_read_sentence pm_read_sentence cd_read_sentence ct_read_sentence : Value} {od_read_sentence an_read_sentence : Option Addr} {sl_read_sentence : Array (Option Value)}
    {oc_common_part kV_common_part doc_common_part pm_common_part cd_common_part ct_common_part : Value} {od_common_part an_common_part : Option Addr} {sl_common_part : Array (Option Value)}
    {oc_wheel_of kV_wheel_of doc_wheel_of pm_wheel_of cd_wheel_of ct_wheel_of : Value} {od_wheel_of an_wheel_of : Option Addr} {sl_wheel_of : Array (Option Value)}
    {oc_breaking kV_breaking doc_breaking pm_breaking cd_breaking ct_breaking : Value} {od_breaking an_breaking : Option Addr} {sl_breaking : Array (Option Value)}
    {oc_sought_by kV_sought_by doc_sought_by pm_sought_by cd_sought_by ct_sought_by : Value} {od_sought_by an_sought_by : Option Addr} {sl_sought_by : Array (Option Value)}
    {oc_Put_init  doc_Put_init pm_Put_init cd_Put_init ct_Put_init : Value} {od_Put_init an_Put_init : Option Addr} {sl_Put_init : Array (Option Value)}
    {D_Put_init : Addr}
    {t_Put_init_by : Tok}
    {oc_Put_weights_in kV_Put_weights_in doc_Put_weights_in pm_Put_weights_in cd_Put_weights_in ct_Put_weights_in : Value} {od_Put_weights_in an_Put_weights_in : Option Addr} {sl_Put_weights_in : Array (Option Value)}
    {oc_Put_into kV_Put_into doc_Put_into pm_Put_into cd_Put_into ct_Put_into : Value} {od_Put_into an_Put_into : Option Addr} {sl_Put_into : Array (Option Value)}
    {oc_Put_is_number kV_Put_is_number doc_Put_is_number pm_Put_is_number cd_Put_is_number ct_Put_is_number : Value} {od_Put_is_number an_Put_is_number : Option Addr} {sl_Put_is_number : Array (Option Value)}
    {oc_puts_at kV_puts_at doc_puts_at pm_puts_at cd_puts_at ct_puts_at : Value} {od_puts_at an_puts_at : Option Addr} {sl_puts_at : Array (Option Value)}
    {oc_any_of kV_any_of doc_any_of pm_any_of cd_any_of ct_any_of : Value} {od_any_of an_any_of : Option Addr} {sl_any_of : Array (Option Value)}
    {oc_plainly_some kV_plainly_some doc_plainly_some pm_plainly_some cd_plainly_some ct_plainly_some : Value} {od_plainly_some an_plainly_some : Option Addr} {sl_plainly_some : Array (Option Value)}
    {oc_plainly kV_plainly doc_plainly pm_plainly cd_plainly ct_plainly : Value} {od_plainly an_plainly : Option Addr} {sl_plainly : Array (Option Value)}
    {oc__law_mix kV__law_mix doc__law_mix pm__law_mix cd__law_mix ct__law_mix : Value} {od__law_mix an__law_mix : Option Addr} {sl__law_mix : Array (Option Value)}
    {oc__law_jar kV__law_jar doc__law_jar pm__law_jar cd__law_jar ct__law_jar : Value} {od__law_jar an__law_jar : Option Addr} {sl__law_jar : Array (Option Value)}
    {oc__law_pick kV__law_pick doc__law_pick pm__law_pick cd__law_pick ct__law_pick : Value} {od__law_pick an__law_pick : Option Addr} {sl__law_pick : Array (Option Value)}
    {oc__law_simple kV__law_simple doc__law_simple pm__law_simple cd__law_simple ct__law_simple : Value} {od__law_simple an__law_simple : Option Addr} {sl__law_simple : Array (Option Value)}
    {oc__law_sentence kV__law_sentence doc__law_sentence pm__law_sentence cd__law_sentence ct__law_sentence : Value} {od__law_sentence an__law_sentence : Option Addr} {sl__law_sentence : Array (Option Value)}
    {oc__law_written kV__law_written doc__law_written pm__law_written cd__law_written ct__law_written : Value} {od__law_written an__law_written : Option Addr} {sl__law_written : Array (Option Value)}
    {oc__law_same kV__law_same doc__law_same pm__law_same cd__law_same ct__law_same : Value} {od__law_same an__law_same : Option Addr} {sl__law_same : Array (Option Value)}
    {oc_law kV_law doc_law pm_law cd_law ct_law : Value} {od_law an_law : Option Addr} {sl_law : Array (Option Value)}
    {tk_GREATEST_BOUND : Tok}
    {tk_GREATEST_PART : Tok}
    {tk_GREATEST_WEIGHT : Tok}
    {tk_MOST_WEIGHTS : Tok}
    {tk_MOST_WITHIN : Tok}
    {ta_DEEPER : Addr} {te_DEEPER : Array DictEntry} {tn_DEEPER : Nat}
    {ta_NUMBERS : Addr} {te_NUMBERS : Array DictEntry} {tn_NUMBERS : Nat}
    (x_n_Put : PySem.W.nsIn K mainGlobals "Put" = some (some (.ref C_Put)))
    (x_g_many_of : PySem.W.nsIn K mainGlobals "many_of" = some (some (.ref a_many_of)))
    (x_l_many_of : K.lookup a_many_of = some ⟨oc_many_of, od_many_of, .func (PySem.W.fnOf "many_of" "many_of" (defArgs s_many_of) (defBody s_many_of) (defScope s_many_of) .none kV_many_of doc_many_of pm_many_of an_many_of cd_many_of ct_many_of), sl_many_of⟩)
    (x_c_many_of : PySem.W.codeIn K cd_many_of "many_of" = true)
    (x_k_many_of : PySem.W.keepIn K (.ref a_many_of) = true)
    (x_g_atoms_of : PySem.W.nsIn K mainGlobals "atoms_of" = some (some (.ref a_atoms_of)))
    (x_l_atoms_of : K.lookup a_atoms_of = some ⟨oc_atoms_of, od_atoms_of, .func (PySem.W.fnOf "atoms_of" "atoms_of" (defArgs s_atoms_of) (defBody s_atoms_of) (defScope s_atoms_of) .none kV_atoms_of doc_atoms_of pm_atoms_of an_atoms_of cd_atoms_of ct_atoms_of), sl_atoms_of⟩)
    (x_c_atoms_of : PySem.W.codeIn K cd_atoms_of "atoms_of" = true)
    (x_k_atoms_of : PySem.W.keepIn K (.ref a_atoms_of) = true)
    (x_g_show_sentence : PySem.W.nsIn K mainGlobals "show_sentence" = some (some (.ref a_show_sentence)))
    (x_l_show_sentence : K.lookup a_show_sentence = some ⟨oc_show_sentence, od_show_sentence, .func (PySem.W.fnOf "show_sentence" "show_sentence" (defArgs s_show_sentence) (defBody s_show_sentence) (defScope s_show_sentence) .none kV_show_sentence doc_show_sentence pm_show_sentence an_show_sentence cd_show_sentence ct_show_sentence), sl_show_sentence⟩)
    (x_c_show_sentence : PySem.W.codeIn K cd_show_sentence "show_sentence" = true)
    (x_k_show_sentence : PySem.W.keepIn K (.ref a_show_sentence) = true)
    (x_g_number_in : PySem.W.nsIn K mainGlobals "number_in" = some (some (.ref a_number_in)))
    (x_l_number_in : K.lookup a_number_in = some ⟨oc_number_in, od_number_in, .func (PySem.W.fnOf "number_in" "number_in" (defArgs s_number_in) (defBody s_number_in) (defScope s_number_in) .none kV_number_in doc_number_in pm_number_in an_number_in cd_number_in ct_number_in), sl_number_in⟩)
    (x_c_number_in : PySem.W.codeIn K cd_number_in "number_in" = true)
    (x_k_number_in : PySem.W.keepIn K (.ref a_number_in) = true)
    (x_g_simple_in : PySem.W.nsIn K mainGlobals "simple_in" = some (some (.ref a_simple_in)))
    (x_l_simple_in : K.lookup a_simple_in = some ⟨oc_simple_in, od_simple_in, .func (PySem.W.fnOf "simple_in" "simple_in" (defArgs s_simple_in) (defBody s_simple_in) (defScope s_simple_in) .none kV_simple_in doc_simple_in pm_simple_in an_simple_in cd_simple_in ct_simple_in), sl_simple_in⟩)
    (x_c_simple_in : PySem.W.codeIn K cd_simple_in "simple_in" = true)
    (x_k_simple_in : PySem.W.keepIn K (.ref a_simple_in) = true)
    (x_g_places_between : PySem.W.nsIn K mainGlobals "places_between" = some (some (.ref a_places_between)))
    (x_l_places_between : K.lookup a_places_between = some ⟨oc_places_between, od_places_between, .func (PySem.W.fnOf "places_between" "places_between" (defArgs s_places_between) (defBody s_places_between) (defScope s_places_between) .none kV_places_between doc_places_between pm_places_between an_places_between cd_places_between ct_places_between), sl_places_between⟩)
    (x_c_places_between : PySem.W.codeIn K cd_places_between "places_between" = true)
    (x_k_places_between : PySem.W.keepIn K (.ref a_places_between) = true)
    (x_g_both_in : PySem.W.nsIn K mainGlobals "both_in" = some (some (.ref a_both_in)))
    (x_l_both_in : K.lookup a_both_in = some ⟨oc_both_in, od_both_in, .func (PySem.W.fnOf "both_in" "both_in" (defArgs s_both_in) (defBody s_both_in) (defScope s_both_in) .none kV_both_in doc_both_in pm_both_in an_both_in cd_both_in ct_both_in), sl_both_in⟩)
    (x_c_both_in : PySem.W.codeIn K cd_both_in "both_in" = true)
    (x_k_both_in : PySem.W.keepIn K (.ref a_both_in) = true)
    (x_g_sentence_in : PySem.W.nsIn K mainGlobals "sentence_in" = some (some (.ref a_sentence_in)))
    (x_l_sentence_in : K.lookup a_sentence_in = some ⟨oc_sentence_in, od_sentence_in, .func (PySem.W.fnOf "sentence_in" "sentence_in" (defArgs s_sentence_in) (defBody s_sentence_in) (defScope s_sentence_in) .none kV_sentence_in doc_sentence_in pm_sentence_in an_sentence_in cd_sentence_in ct_sentence_in), sl_sentence_in⟩)
    (x_c_sentence_in : PySem.W.codeIn K cd_sentence_in "sentence_in" = true)
    (x_k_sentence_in : PySem.W.keepIn K (.ref a_sentence_in) = true)
    (x_g_read_sentence : PySem.W.nsIn K mainGlobals "read_sentence" = some (some (.ref a_read_sentence)))
    (x_l_read_sentence : K.lookup a_read_sentence = some ⟨oc_read_sentence, od_read_sentence, .func (PySem.W.fnOf "read_sentence" "read_sentence" (defArgs s_read_sentence) (defBody s_read_sentence) (defScope s_read_sentence) .none kV_read_sentence doc_read_sentence pm_read_sentence an_read_sentence cd_read_sentence ct_read_sentence), sl_read_sentence⟩)
    (x_c_read_sentence : PySem.W.codeIn K cd_read_sentence "read_sentence" = true)
    (x_k_read_sentence : PySem.W.keepIn K (.ref a_read_sentence) = true)
    (x_g_common_part : PySem.W.nsIn K mainGlobals "common_part" = some (some (.ref a_common_part)))
    (x_l_common_part : K.lookup a_common_part = some ⟨oc_common_part, od_common_part, .func (PySem.W.fnOf "common_part" "common_part" (defArgs s_common_part) (defBody s_common_part) (defScope s_common_part) .none kV_common_part doc_common_part pm_common_part an_common_part cd_common_part ct_common_part), sl_common_part⟩)
    (x_c_common_part : PySem.W.codeIn K cd_common_part "common_part" = true)
    (x_k_common_part : PySem.W.keepIn K (.ref a_common_part) = true)
    (x_g_wheel_of : PySem.W.nsIn K mainGlobals "wheel_of" = some (some (.ref a_wheel_of)))
    (x_l_wheel_of : K.lookup a_wheel_of = some ⟨oc_wheel_of, od_wheel_of, .func (PySem.W.fnOf "wheel_of" "wheel_of" (defArgs s_wheel_of) (defBody s_wheel_of) (defScope s_wheel_of) .none kV_wheel_of doc_wheel_of pm_wheel_of an_wheel_of cd_wheel_of ct_wheel_of), sl_wheel_of⟩)
    (x_c_wheel_of : PySem.W.codeIn K cd_wheel_of "wheel_of" = true)
    (x_k_wheel_of : PySem.W.keepIn K (.ref a_wheel_of) = true)
    (x_g_breaking : PySem.W.nsIn K mainGlobals "breaking" = some (some (.ref a_breaking)))
    (x_l_breaking : K.lookup a_breaking = some ⟨oc_breaking, od_breaking, .func (PySem.W.fnOf "breaking" "breaking" (defArgs s_breaking) (defBody s_breaking) (defScope s_breaking) .none kV_breaking doc_breaking pm_breaking an_breaking cd_breaking ct_breaking), sl_breaking⟩)
    (x_c_breaking : PySem.W.codeIn K cd_breaking "breaking" = true)
    (x_k_breaking : PySem.W.keepIn K (.ref a_breaking) = true)
    (x_g_sought_by : PySem.W.nsIn K mainGlobals "sought_by" = some (some (.ref a_sought_by)))
    (x_l_sought_by : K.lookup a_sought_by = some ⟨oc_sought_by, od_sought_by, .func (PySem.W.fnOf "sought_by" "sought_by" (defArgs s_sought_by) (defBody s_sought_by) (defScope s_sought_by) .none kV_sought_by doc_sought_by pm_sought_by an_sought_by cd_sought_by ct_sought_by), sl_sought_by⟩)
    (x_c_sought_by : PySem.W.codeIn K cd_sought_by "sought_by" = true)
    (x_k_sought_by : PySem.W.keepIn K (.ref a_sought_by) = true)
    (x_g_Put_init : PySem.W.findIn K (.ref C_Put) "__init__" = some (some (.ref a_Put_init)))
    (x_i_Put_init : PySem.W.isFn K (.ref a_Put_init) = true)
    (x_l_Put_init : K.lookup a_Put_init = some ⟨oc_Put_init, od_Put_init, .func (PySem.W.fnOf "__init__" "Put.__init__" (defArgs s_Put_init) (defBody s_Put_init) (defScope s_Put_init) .none (.ref D_Put_init) doc_Put_init pm_Put_init an_Put_init cd_Put_init ct_Put_init), sl_Put_init⟩)
    (x_c_Put_init : PySem.W.codeIn K cd_Put_init "Put.__init__" = true)
    (x_k_Put_init : PySem.W.keepIn K (.ref a_Put_init) = true)
    (x_w_Put_init_by : PySem.W.nsIn K D_Put_init "by" = some (some (.int 1 t_Put_init_by)))
    (x_g_Put_weights_in : PySem.W.findIn K (.ref C_Put) "weights_in" = some (some (.ref a_Put_weights_in)))
    (x_i_Put_weights_in : PySem.W.isFn K (.ref a_Put_weights_in) = true)
    (x_l_Put_weights_in : K.lookup a_Put_weights_in = some ⟨oc_Put_weights_in, od_Put_weights_in, .func (PySem.W.fnOf "weights_in" "Put.weights_in" (defArgs s_Put_weights_in) (defBody s_Put_weights_in) (defScope s_Put_weights_in) .none kV_Put_weights_in doc_Put_weights_in pm_Put_weights_in an_Put_weights_in cd_Put_weights_in ct_Put_weights_in), sl_Put_weights_in⟩)
    (x_c_Put_weights_in : PySem.W.codeIn K cd_Put_weights_in "Put.weights_in" = true)
    (x_k_Put_weights_in : PySem.W.keepIn K (.ref a_Put_weights_in) = true)
    (x_g_Put_into : PySem.W.findIn K (.ref C_Put) "into" = some (some (.ref a_Put_into)))
    (x_i_Put_into : PySem.W.isFn K (.ref a_Put_into) = true)
    (x_l_Put_into : K.lookup a_Put_into = some ⟨oc_Put_into, od_Put_into, .func (PySem.W.fnOf "into" "Put.into" (defArgs s_Put_into) (defBody s_Put_into) (defScope s_Put_into) .none kV_Put_into doc_Put_into pm_Put_into an_Put_into cd_Put_into ct_Put_into), sl_Put_into⟩)
    (x_c_Put_into : PySem.W.codeIn K cd_Put_into "Put.into" = true)
    (x_k_Put_into : PySem.W.keepIn K (.ref a_Put_into) = true)
    (x_g_Put_is_number : PySem.W.findIn K (.ref C_Put) "is_number" = some (some (.ref a_Put_is_number)))
    (x_i_Put_is_number : PySem.W.isFn K (.ref a_Put_is_number) = true)
    (x_l_Put_is_number : K.lookup a_Put_is_number = some ⟨oc_Put_is_number, od_Put_is_number, .func (PySem.W.fnOf "is_number" "Put.is_number" (defArgs s_Put_is_number) (defBody s_Put_is_number) (defScope s_Put_is_number) .none kV_Put_is_number doc_Put_is_number pm_Put_is_number an_Put_is_number cd_Put_is_number ct_Put_is_number), sl_Put_is_number⟩)
    (x_c_Put_is_number : PySem.W.codeIn K cd_Put_is_number "Put.is_number" = true)
    (x_k_Put_is_number : PySem.W.keepIn K (.ref a_Put_is_number) = true)
    (x_g_puts_at : PySem.W.nsIn K mainGlobals "puts_at" = some (some (.ref a_puts_at)))
    (x_l_puts_at : K.lookup a_puts_at = some ⟨oc_puts_at, od_puts_at, .func (PySem.W.fnOf "puts_at" "puts_at" (defArgs s_puts_at) (defBody s_puts_at) (defScope s_puts_at) .none kV_puts_at doc_puts_at pm_puts_at an_puts_at cd_puts_at ct_puts_at), sl_puts_at⟩)
    (x_c_puts_at : PySem.W.codeIn K cd_puts_at "puts_at" = true)
    (x_k_puts_at : PySem.W.keepIn K (.ref a_puts_at) = true)
    (x_g_any_of : PySem.W.nsIn K mainGlobals "any_of" = some (some (.ref a_any_of)))
    (x_l_any_of : K.lookup a_any_of = some ⟨oc_any_of, od_any_of, .func (PySem.W.fnOf "any_of" "any_of" (defArgs s_any_of) (defBody s_any_of) (defScope s_any_of) .none kV_any_of doc_any_of pm_any_of an_any_of cd_any_of ct_any_of), sl_any_of⟩)
    (x_c_any_of : PySem.W.codeIn K cd_any_of "any_of" = true)
    (x_k_any_of : PySem.W.keepIn K (.ref a_any_of) = true)
    (x_g_plainly_some : PySem.W.nsIn K mainGlobals "plainly_some" = some (some (.ref a_plainly_some)))
    (x_l_plainly_some : K.lookup a_plainly_some = some ⟨oc_plainly_some, od_plainly_some, .func (PySem.W.fnOf "plainly_some" "plainly_some" (defArgs s_plainly_some) (defBody s_plainly_some) (defScope s_plainly_some) .none kV_plainly_some doc_plainly_some pm_plainly_some an_plainly_some cd_plainly_some ct_plainly_some), sl_plainly_some⟩)
    (x_c_plainly_some : PySem.W.codeIn K cd_plainly_some "plainly_some" = true)
    (x_k_plainly_some : PySem.W.keepIn K (.ref a_plainly_some) = true)
    (x_g_plainly : PySem.W.nsIn K mainGlobals "plainly" = some (some (.ref a_plainly)))
    (x_l_plainly : K.lookup a_plainly = some ⟨oc_plainly, od_plainly, .func (PySem.W.fnOf "plainly" "plainly" (defArgs s_plainly) (defBody s_plainly) (defScope s_plainly) .none kV_plainly doc_plainly pm_plainly an_plainly cd_plainly ct_plainly), sl_plainly⟩)
    (x_c_plainly : PySem.W.codeIn K cd_plainly "plainly" = true)
    (x_k_plainly : PySem.W.keepIn K (.ref a_plainly) = true)
    (x_g__law_mix : PySem.W.nsIn K mainGlobals "_law_mix" = some (some (.ref a__law_mix)))
    (x_l__law_mix : K.lookup a__law_mix = some ⟨oc__law_mix, od__law_mix, .func (PySem.W.fnOf "_law_mix" "_law_mix" (defArgs s__law_mix) (defBody s__law_mix) (defScope s__law_mix) .none kV__law_mix doc__law_mix pm__law_mix an__law_mix cd__law_mix ct__law_mix), sl__law_mix⟩)
    (x_c__law_mix : PySem.W.codeIn K cd__law_mix "_law_mix" = true)
    (x_k__law_mix : PySem.W.keepIn K (.ref a__law_mix) = true)
    (x_g__law_jar : PySem.W.nsIn K mainGlobals "_law_jar" = some (some (.ref a__law_jar)))
    (x_l__law_jar : K.lookup a__law_jar = some ⟨oc__law_jar, od__law_jar, .func (PySem.W.fnOf "_law_jar" "_law_jar" (defArgs s__law_jar) (defBody s__law_jar) (defScope s__law_jar) .none kV__law_jar doc__law_jar pm__law_jar an__law_jar cd__law_jar ct__law_jar), sl__law_jar⟩)
    (x_c__law_jar : PySem.W.codeIn K cd__law_jar "_law_jar" = true)
    (x_k__law_jar : PySem.W.keepIn K (.ref a__law_jar) = true)
    (x_g__law_pick : PySem.W.nsIn K mainGlobals "_law_pick" = some (some (.ref a__law_pick)))
    (x_l__law_pick : K.lookup a__law_pick = some ⟨oc__law_pick, od__law_pick, .func (PySem.W.fnOf "_law_pick" "_law_pick" (defArgs s__law_pick) (defBody s__law_pick) (defScope s__law_pick) .none kV__law_pick doc__law_pick pm__law_pick an__law_pick cd__law_pick ct__law_pick), sl__law_pick⟩)
    (x_c__law_pick : PySem.W.codeIn K cd__law_pick "_law_pick" = true)
    (x_k__law_pick : PySem.W.keepIn K (.ref a__law_pick) = true)
    (x_g__law_simple : PySem.W.nsIn K mainGlobals "_law_simple" = some (some (.ref a__law_simple)))
    (x_l__law_simple : K.lookup a__law_simple = some ⟨oc__law_simple, od__law_simple, .func (PySem.W.fnOf "_law_simple" "_law_simple" (defArgs s__law_simple) (defBody s__law_simple) (defScope s__law_simple) .none kV__law_simple doc__law_simple pm__law_simple an__law_simple cd__law_simple ct__law_simple), sl__law_simple⟩)
    (x_c__law_simple : PySem.W.codeIn K cd__law_simple "_law_simple" = true)
    (x_k__law_simple : PySem.W.keepIn K (.ref a__law_simple) = true)
    (x_g__law_sentence : PySem.W.nsIn K mainGlobals "_law_sentence" = some (some (.ref a__law_sentence)))
    (x_l__law_sentence : K.lookup a__law_sentence = some ⟨oc__law_sentence, od__law_sentence, .func (PySem.W.fnOf "_law_sentence" "_law_sentence" (defArgs s__law_sentence) (defBody s__law_sentence) (defScope s__law_sentence) .none kV__law_sentence doc__law_sentence pm__law_sentence an__law_sentence cd__law_sentence ct__law_sentence), sl__law_sentence⟩)
    (x_c__law_sentence : PySem.W.codeIn K cd__law_sentence "_law_sentence" = true)
    (x_k__law_sentence : PySem.W.keepIn K (.ref a__law_sentence) = true)
    (x_g__law_written : PySem.W.nsIn K mainGlobals "_law_written" = some (some (.ref a__law_written)))
    (x_l__law_written : K.lookup a__law_written = some ⟨oc__law_written, od__law_written, .func (PySem.W.fnOf "_law_written" "_law_written" (defArgs s__law_written) (defBody s__law_written) (defScope s__law_written) .none kV__law_written doc__law_written pm__law_written an__law_written cd__law_written ct__law_written), sl__law_written⟩)
    (x_c__law_written : PySem.W.codeIn K cd__law_written "_law_written" = true)
    (x_k__law_written : PySem.W.keepIn K (.ref a__law_written) = true)
    (x_g__law_same : PySem.W.nsIn K mainGlobals "_law_same" = some (some (.ref a__law_same)))
    (x_l__law_same : K.lookup a__law_same = some ⟨oc__law_same, od__law_same, .func (PySem.W.fnOf "_law_same" "_law_same" (defArgs s__law_same) (defBody s__law_same) (defScope s__law_same) .none kV__law_same doc__law_same pm__law_same an__law_same cd__law_same ct__law_same), sl__law_same⟩)
    (x_c__law_same : PySem.W.codeIn K cd__law_same "_law_same" = true)
    (x_k__law_same : PySem.W.keepIn K (.ref a__law_same) = true)
    (x_g_law : PySem.W.nsIn K mainGlobals "law" = some (some (.ref a_law)))
    (x_l_law : K.lookup a_law = some ⟨oc_law, od_law, .func (PySem.W.fnOf "law" "law" (defArgs s_law) (defBody s_law) (defScope s_law) .none kV_law doc_law pm_law an_law cd_law ct_law), sl_law⟩)
    (x_c_law : PySem.W.codeIn K cd_law "law" = true)
    (x_k_law : PySem.W.keepIn K (.ref a_law) = true)
    (x_pg_Put : PySem.W.plainGet K C_Put Str.empty = true)
    (x_hd_Put : PySem.W.hasDictIn K C_Put = true)
    (x_po_Put : PySem.W.plainOver K C_Put = true)
    (x_sa_Put : PySem.W.findIn K (.ref C_Put) "__setattr__" = some (some (.builtin "object.__setattr__")))
    (x_mk_Put : PySem.W.makesIn K C_Put = true)
    (x_kp_Put : PySem.W.keepIn K (.ref C_Put) = true)
    (x_na_parts_Put : PySem.W.findIn K (.ref C_Put) "parts" = some none)
    (x_na_slopes_Put : PySem.W.findIn K (.ref C_Put) "slopes" = some none)
    (x_na_start_Put : PySem.W.findIn K (.ref C_Put) "start" = some none)
    (x_v_GREATEST_BOUND : PySem.W.nsIn K mainGlobals "GREATEST_BOUND" = some (some (.int 4 tk_GREATEST_BOUND)))
    (x_v_GREATEST_PART : PySem.W.nsIn K mainGlobals "GREATEST_PART" = some (some (.int 5 tk_GREATEST_PART)))
    (x_v_GREATEST_WEIGHT : PySem.W.nsIn K mainGlobals "GREATEST_WEIGHT" = some (some (.int 3 tk_GREATEST_WEIGHT)))
    (x_v_MOST_WEIGHTS : PySem.W.nsIn K mainGlobals "MOST_WEIGHTS" = some (some (.int 3 tk_MOST_WEIGHTS)))
    (x_v_MOST_WITHIN : PySem.W.nsIn K mainGlobals "MOST_WITHIN" = some (some (.int 2 tk_MOST_WITHIN)))
    (x_tg_DEEPER : PySem.W.nsIn K mainGlobals "DEEPER" = some (some (.ref ta_DEEPER)))
    (x_tl_DEEPER : K.lookup ta_DEEPER = some ⟨.type "dict", none, .dict te_DEEPER tn_DEEPER, #[]⟩)
    (x_tt_DEEPER : (ta_DEEPER == sysModules) = false ∧ TabIs w.params te_DEEPER.toList [("(", 1), (")", -1)])
    (x_tg_NUMBERS : PySem.W.nsIn K mainGlobals "NUMBERS" = some (some (.ref ta_NUMBERS)))
    (x_tl_NUMBERS : K.lookup ta_NUMBERS = some ⟨.type "dict", none, .dict te_NUMBERS tn_NUMBERS, #[]⟩)
    (x_tt_NUMBERS : (ta_NUMBERS == sysModules) = false ∧ TabIs w.params te_NUMBERS.toList [("least", 2), ("rest", 3)])
    (x_z_abs : PySem.W.nsIn K mainGlobals "abs" = some none)
    (x_z_all : PySem.W.nsIn K mainGlobals "all" = some none)
    (x_z_bool : PySem.W.nsIn K mainGlobals "bool" = some none)
    (x_z_enumerate : PySem.W.nsIn K mainGlobals "enumerate" = some none)
    (x_z_int : PySem.W.nsIn K mainGlobals "int" = some none)
    (x_z_isinstance : PySem.W.nsIn K mainGlobals "isinstance" = some none)
    (x_z_len : PySem.W.nsIn K mainGlobals "len" = some none)
    (x_z_list : PySem.W.nsIn K mainGlobals "list" = some none)
    (x_z_range : PySem.W.nsIn K mainGlobals "range" = some none)
    (x_z_str : PySem.W.nsIn K mainGlobals "str" = some none)
    (x_z_tuple : PySem.W.nsIn K mainGlobals "tuple" = some none)
    (x_z_zip : PySem.W.nsIn K mainGlobals "zip" = some none)
    (hlaw : ∀ ns : List Int, ns.length ≤ 63 → (∀ z ∈ ns, Builtin.Int.intBits z ≤ 1048576) → ∃ M, S_law 60 [.scr (ns.map D.int)] [] = .ok (.bl true) M) :
    ∃ fd : FuncData, (∀ (s : Shared) (v : Value), BindsTo s fd ⟨[v], []⟩ [("script", v)]) ∧ ∀ base : Heap, K.In base → base.Ns mainGlobals mg → FnOk l.prog w K mg base (L2.CX l.prog w) 60 fa fd ["script"] (spTrue K) := by
  have e : a_law = fa := Value.ref.inj (Option.some.inj ((PySem.W.mg_of X G x_g_law).symm.trans hfa))
  subst e
  have F_many_of : FunD K "many_of" "many_of" (defArgs s_many_of) (defBody s_many_of) (defScope s_many_of) [] [] a_many_of _ := fund_mk x_l_many_of x_c_many_of x_k_many_of (.inl ⟨rfl, rfl⟩) (.inl rfl)
  have F_atoms_of : FunD K "atoms_of" "atoms_of" (defArgs s_atoms_of) (defBody s_atoms_of) (defScope s_atoms_of) [] [] a_atoms_of _ := fund_mk x_l_atoms_of x_c_atoms_of x_k_atoms_of (.inl ⟨rfl, rfl⟩) (.inl rfl)
  have F_show_sentence : FunD K "show_sentence" "show_sentence" (defArgs s_show_sentence) (defBody s_show_sentence) (defScope s_show_sentence) [] [] a_show_sentence _ := fund_mk x_l_show_sentence x_c_show_sentence x_k_show_sentence (.inl ⟨rfl, rfl⟩) (.inl rfl)
  have F_number_in : FunD K "number_in" "number_in" (defArgs s_number_in) (defBody s_number_in) (defScope s_number_in) [] [] a_number_in _ := fund_mk x_l_number_in x_c_number_in x_k_number_in (.inl ⟨rfl, rfl⟩) (.inl rfl)
  have F_simple_in : FunD K "simple_in" "simple_in" (defArgs s_simple_in) (defBody s_simple_in) (defScope s_simple_in) [] [] a_simple_in _ := fund_mk x_l_simple_in x_c_simple_in x_k_simple_in (.inl ⟨rfl, rfl⟩) (.inl rfl)
  have F_places_between : FunD K "places_between" "places_between" (defArgs s_places_between) (defBody s_places_between) (defScope s_places_between) [] [] a_places_between _ := fund_mk x_l_places_between x_c_places_between x_k_places_between (.inl ⟨rfl, rfl⟩) (.inl rfl)
  have F_both_in : FunD K "both_in" "both_in" (defArgs s_both_in) (defBody s_both_in) (defScope s_both_in) [] [] a_both_in _ := fund_mk x_l_both_in x_c_both_in x_k_both_in (.inl ⟨rfl, rfl⟩) (.inl rfl)
  have F_sentence_in : FunD K "sentence_in" "sentence_in" (defArgs s_sentence_in) (defBody s_sentence_in) (defScope s_sentence_in) [] [] a_sentence_in _ := fund_mk x_l_sentence_in x_c_sentence_in x_k_sentence_in (.inl ⟨rfl, rfl⟩) (.inl rfl)
  have F_read_sentence : FunD K "read_sentence" "read_sentence" (defArgs s_read_sentence) (defBody s_read_sentence) (defScope s_read_sentence) [] [] a_read_sentence _ := fund_mk x_l_read_sentence x_c_read_sentence x_k_read_sentence (.inl ⟨rfl, rfl⟩) (.inl rfl)
  have F_common_part : FunD K "common_part" "common_part" (defArgs s_common_part) (defBody s_common_part) (defScope s_common_part) [] [] a_common_part _ := fund_mk x_l_common_part x_c_common_part x_k_common_part (.inl ⟨rfl, rfl⟩) (.inl rfl)
  have F_wheel_of : FunD K "wheel_of" "wheel_of" (defArgs s_wheel_of) (defBody s_wheel_of) (defScope s_wheel_of) [] [] a_wheel_of _ := fund_mk x_l_wheel_of x_c_wheel_of x_k_wheel_of (.inl ⟨rfl, rfl⟩) (.inl rfl)
  have F_breaking : FunD K "breaking" "breaking" (defArgs s_breaking) (defBody s_breaking) (defScope s_breaking) [] [] a_breaking _ := fund_mk x_l_breaking x_c_breaking x_k_breaking (.inl ⟨rfl, rfl⟩) (.inl rfl)
  have F_sought_by : FunD K "sought_by" "sought_by" (defArgs s_sought_by) (defBody s_sought_by) (defScope s_sought_by) [] [] a_sought_by _ := fund_mk x_l_sought_by x_c_sought_by x_k_sought_by (.inl ⟨rfl, rfl⟩) (.inl rfl)
  have F_Put_init : FunD K "__init__" "Put.__init__" (defArgs s_Put_init) (defBody s_Put_init) (defScope s_Put_init) [] [("by", V.int (1))] a_Put_init _ := fund_mk x_l_Put_init x_c_Put_init x_k_Put_init (.inl ⟨rfl, rfl⟩) (.inr ⟨D_Put_init, rfl, fun q hq => by simp only [List.mem_cons, List.not_mem_nil, or_false] at hq; rcases hq with rfl <;> first | exact ⟨_, x_w_Put_init_by, _, rfl⟩⟩)
  have F_Put_weights_in : FunD K "weights_in" "Put.weights_in" (defArgs s_Put_weights_in) (defBody s_Put_weights_in) (defScope s_Put_weights_in) [] [] a_Put_weights_in _ := fund_mk x_l_Put_weights_in x_c_Put_weights_in x_k_Put_weights_in (.inl ⟨rfl, rfl⟩) (.inl rfl)
  have F_Put_into : FunD K "into" "Put.into" (defArgs s_Put_into) (defBody s_Put_into) (defScope s_Put_into) [] [] a_Put_into _ := fund_mk x_l_Put_into x_c_Put_into x_k_Put_into (.inl ⟨rfl, rfl⟩) (.inl rfl)
  have F_Put_is_number : FunD K "is_number" "Put.is_number" (defArgs s_Put_is_number) (defBody s_Put_is_number) (defScope s_Put_is_number) [] [] a_Put_is_number _ := fund_mk x_l_Put_is_number x_c_Put_is_number x_k_Put_is_number (.inl ⟨rfl, rfl⟩) (.inl rfl)
  have F_puts_at : FunD K "puts_at" "puts_at" (defArgs s_puts_at) (defBody s_puts_at) (defScope s_puts_at) [] [] a_puts_at _ := fund_mk x_l_puts_at x_c_puts_at x_k_puts_at (.inl ⟨rfl, rfl⟩) (.inl rfl)
  have F_any_of : FunD K "any_of" "any_of" (defArgs s_any_of) (defBody s_any_of) (defScope s_any_of) [] [] a_any_of _ := fund_mk x_l_any_of x_c_any_of x_k_any_of (.inl ⟨rfl, rfl⟩) (.inl rfl)
  have F_plainly_some : FunD K "plainly_some" "plainly_some" (defArgs s_plainly_some) (defBody s_plainly_some) (defScope s_plainly_some) [] [] a_plainly_some _ := fund_mk x_l_plainly_some x_c_plainly_some x_k_plainly_some (.inl ⟨rfl, rfl⟩) (.inl rfl)
  have F_plainly : FunD K "plainly" "plainly" (defArgs s_plainly) (defBody s_plainly) (defScope s_plainly) [] [] a_plainly _ := fund_mk x_l_plainly x_c_plainly x_k_plainly (.inl ⟨rfl, rfl⟩) (.inl rfl)
  have F__law_mix : FunD K "_law_mix" "_law_mix" (defArgs s__law_mix) (defBody s__law_mix) (defScope s__law_mix) [] [] a__law_mix _ := fund_mk x_l__law_mix x_c__law_mix x_k__law_mix (.inl ⟨rfl, rfl⟩) (.inl rfl)
  have F__law_jar : FunD K "_law_jar" "_law_jar" (defArgs s__law_jar) (defBody s__law_jar) (defScope s__law_jar) [] [] a__law_jar _ := fund_mk x_l__law_jar x_c__law_jar x_k__law_jar (.inl ⟨rfl, rfl⟩) (.inl rfl)
  have F__law_pick : FunD K "_law_pick" "_law_pick" (defArgs s__law_pick) (defBody s__law_pick) (defScope s__law_pick) [] [] a__law_pick _ := fund_mk x_l__law_pick x_c__law_pick x_k__law_pick (.inl ⟨rfl, rfl⟩) (.inl rfl)
  have F__law_simple : FunD K "_law_simple" "_law_simple" (defArgs s__law_simple) (defBody s__law_simple) (defScope s__law_simple) [] [] a__law_simple _ := fund_mk x_l__law_simple x_c__law_simple x_k__law_simple (.inl ⟨rfl, rfl⟩) (.inl rfl)
  have F__law_sentence : FunD K "_law_sentence" "_law_sentence" (defArgs s__law_sentence) (defBody s__law_sentence) (defScope s__law_sentence) [] [] a__law_sentence _ := fund_mk x_l__law_sentence x_c__law_sentence x_k__law_sentence (.inl ⟨rfl, rfl⟩) (.inl rfl)
  have F__law_written : FunD K "_law_written" "_law_written" (defArgs s__law_written) (defBody s__law_written) (defScope s__law_written) [] [] a__law_written _ := fund_mk x_l__law_written x_c__law_written x_k__law_written (.inl ⟨rfl, rfl⟩) (.inl rfl)
  have F__law_same : FunD K "_law_same" "_law_same" (defArgs s__law_same) (defBody s__law_same) (defScope s__law_same) [] [] a__law_same _ := fund_mk x_l__law_same x_c__law_same x_k__law_same (.inl ⟨rfl, rfl⟩) (.inl rfl)
  have F_law : FunD K "law" "law" (defArgs s_law) (defBody s_law) (defScope s_law) [] [] a_law _ := fund_mk x_l_law x_c_law x_k_law (.inl ⟨rfl, rfl⟩) (.inl rfl)
  have cl_Put : Cls K C_Put := ⟨x_pg_Put, x_hd_Put, x_po_Put, x_sa_Put⟩
  have mc_Put : mg "Put" = some (.ref C_Put) := PySem.W.mg_of X G x_n_Put
  refine ⟨_, fun s v => .of_eq rfl, fun base _ _ => law_ok (S := S_law 60) (ok_law (T := ⟨F_many_of,
    PySem.W.mg_of X G x_g_many_of,
    F_atoms_of,
    PySem.W.mg_of X G x_g_atoms_of,
    F_show_sentence,
    PySem.W.mg_of X G x_g_show_sentence,
    F_number_in,
    PySem.W.mg_of X G x_g_number_in,
    F_simple_in,
    PySem.W.mg_of X G x_g_simple_in,
    F_places_between,
    PySem.W.mg_of X G x_g_places_between,
    F_both_in,
    PySem.W.mg_of X G x_g_both_in,
    F_sentence_in,
    PySem.W.mg_of X G x_g_sentence_in,
    F_read_sentence,
    PySem.W.mg_of X G x_g_read_sentence,
    F_common_part,
    PySem.W.mg_of X G x_g_common_part,
    F_wheel_of,
    PySem.W.mg_of X G x_g_wheel_of,
    F_breaking,
    PySem.W.mg_of X G x_g_breaking,
    F_sought_by,
    PySem.W.mg_of X G x_g_sought_by,
    F_Put_init,
    F_Put_weights_in,
    F_Put_into,
    F_Put_is_number,
    F_puts_at,
    PySem.W.mg_of X G x_g_puts_at,
    F_any_of,
    PySem.W.mg_of X G x_g_any_of,
    F_plainly_some,
    PySem.W.mg_of X G x_g_plainly_some,
    F_plainly,
    PySem.W.mg_of X G x_g_plainly,
    F__law_mix,
    PySem.W.mg_of X G x_g__law_mix,
    F__law_jar,
    PySem.W.mg_of X G x_g__law_jar,
    F__law_pick,
    PySem.W.mg_of X G x_g__law_pick,
    F__law_simple,
    PySem.W.mg_of X G x_g__law_simple,
    F__law_sentence,
    PySem.W.mg_of X G x_g__law_sentence,
    F__law_written,
    PySem.W.mg_of X G x_g__law_written,
    F__law_same,
    PySem.W.mg_of X G x_g__law_same,
    F_law,
    PySem.W.mg_of X G x_g_law,
    kd_kw0 F_Put_init (by simp) rfl (fun _ _ _ _ _ _ us ks hl hk => match us, hl, ks, hk with | [_, _, _], _, [_], _ => ⟨_, _, _, _, _, _, rfl, rfl, rfl⟩) (fun _ _ => .cons (by unfold Rep; rfl) (.nil)),
    kd_kwA F_Put_init (by simp) (fun _ _ _ _ _ _ us ws hl hk => match us, hl, ws, hk with | [_, _, _], _, [_], _ => rfl),
    kd_all F_Put_into rfl (fun _ _ _ _ _ _ us hl => match us, hl with | [_, _], _ => rfl),
    kd_all F_Put_is_number rfl (fun _ _ _ _ _ _ us hl => match us, hl with | [_], _ => rfl),
    kd_all F_Put_weights_in rfl (fun _ _ _ _ _ _ us hl => match us, hl with | [_, _], _ => rfl),
    kd_all F__law_jar rfl (fun _ _ _ _ _ _ us hl => match us, hl with | [_], _ => rfl),
    kd_all F__law_mix rfl (fun _ _ _ _ _ _ us hl => match us, hl with | [_], _ => rfl),
    kd_all F__law_pick rfl (fun _ _ _ _ _ _ us hl => match us, hl with | [_, _], _ => rfl),
    kd_all F__law_same rfl (fun _ _ _ _ _ _ us hl => match us, hl with | [_, _], _ => rfl),
    kd_all F__law_sentence rfl (fun _ _ _ _ _ _ us hl => match us, hl with | [_, _, _], _ => rfl),
    kd_all F__law_simple rfl (fun _ _ _ _ _ _ us hl => match us, hl with | [_, _], _ => rfl),
    kd_all F__law_written rfl (fun _ _ _ _ _ _ us hl => match us, hl with | [_], _ => rfl),
    kd_all F_any_of rfl (fun _ _ _ _ _ _ us hl => match us, hl with | [_], _ => rfl),
    kd_all F_atoms_of rfl (fun _ _ _ _ _ _ us hl => match us, hl with | [_], _ => rfl),
    kd_all F_both_in rfl (fun _ _ _ _ _ _ us hl => match us, hl with | [_, _], _ => rfl),
    kd_all F_breaking rfl (fun _ _ _ _ _ _ us hl => match us, hl with | [_], _ => rfl),
    kd_all F_common_part rfl (fun _ _ _ _ _ _ us hl => match us, hl with | [_, _], _ => rfl),
    kd_all F_many_of rfl (fun _ _ _ _ _ _ us hl => match us, hl with | [_], _ => rfl),
    kd_all F_number_in rfl (fun _ _ _ _ _ _ us hl => match us, hl with | [_, _, _], _ => rfl),
    kd_all F_places_between rfl (fun _ _ _ _ _ _ us hl => match us, hl with | [_], _ => rfl),
    kd_all F_plainly rfl (fun _ _ _ _ _ _ us hl => match us, hl with | [_], _ => rfl),
    kd_all F_plainly_some rfl (fun _ _ _ _ _ _ us hl => match us, hl with | [_], _ => rfl),
    kd_all F_puts_at rfl (fun _ _ _ _ _ _ us hl => match us, hl with | [_, _], _ => rfl),
    kd_all F_read_sentence rfl (fun _ _ _ _ _ _ us hl => match us, hl with | [_], _ => rfl),
    kd_all F_sentence_in rfl (fun _ _ _ _ _ _ us hl => match us, hl with | [_, _], _ => rfl),
    kd_all F_show_sentence rfl (fun _ _ _ _ _ _ us hl => match us, hl with | [_], _ => rfl),
    kd_all F_simple_in rfl (fun _ _ _ _ _ _ us hl => match us, hl with | [_], _ => rfl),
    kd_all F_sought_by rfl (fun _ _ _ _ _ _ us hl => match us, hl with | [_], _ => rfl),
    kd_all F_wheel_of rfl (fun _ _ _ _ _ _ us hl => match us, hl with | [_], _ => rfl),
    mc_Put,
    cl_Put,
    ⟨x_mk_Put, x_g_Put_init, x_i_Put_init, x_kp_Put⟩,
    ⟨x_g_Put_into, x_i_Put_into, x_k_Put_into⟩,
    ⟨x_g_Put_is_number, x_i_Put_is_number, x_k_Put_is_number⟩,
    ⟨x_g_Put_weights_in, x_i_Put_weights_in, x_k_Put_weights_in⟩,
    (fld_cons mc_Put cl_Put x_na_parts_Put fld_nil),
    (fld_cons mc_Put cl_Put x_na_slopes_Put fld_nil),
    (fld_cons mc_Put cl_Put x_na_start_Put fld_nil),
    ⟨⟨_, PySem.W.mg_of X G x_v_GREATEST_BOUND⟩⟩,
    ⟨⟨_, PySem.W.mg_of X G x_v_GREATEST_PART⟩⟩,
    ⟨⟨_, PySem.W.mg_of X G x_v_GREATEST_WEIGHT⟩⟩,
    ⟨⟨_, PySem.W.mg_of X G x_v_MOST_WEIGHTS⟩⟩,
    ⟨⟨_, PySem.W.mg_of X G x_v_MOST_WITHIN⟩⟩,
    ⟨⟨_, _, _, PySem.W.mg_of X G x_tg_DEEPER, x_tl_DEEPER, x_tt_DEEPER.1, x_tt_DEEPER.2⟩⟩,
    ⟨⟨_, _, _, PySem.W.mg_of X G x_tg_NUMBERS, x_tl_NUMBERS, x_tt_NUMBERS.1, x_tt_NUMBERS.2⟩⟩,
    PySem.W.mg_none_of X G x_z_abs,
    PySem.W.mg_none_of X G x_z_all,
    PySem.W.mg_none_of X G x_z_bool,
    PySem.W.mg_none_of X G x_z_enumerate,
    PySem.W.mg_none_of X G x_z_int,
    PySem.W.mg_none_of X G x_z_isinstance,
    PySem.W.mg_none_of X G x_z_len,
    PySem.W.mg_none_of X G x_z_list,
    PySem.W.mg_none_of X G x_z_range,
    PySem.W.mg_none_of X G x_z_str,
    PySem.W.mg_none_of X G x_z_tuple,
    PySem.W.mg_none_of X G x_z_zip,
    isi_bool,
    isi_int,
    isi_list,
    isi_str,
    isi_tuple⟩) 60) hlaw⟩

end K83
open PySem PySem.W PyProof.Rows
set_option maxRecDepth 100000 in
set_option maxHeartbeats 0 in
theorem PySem.Challenge.cw_crowdsay_k83_sentences_written_and_read_holds : PySem.Challenge.rw_crowdsay_k83_sentences_written_and_read.Holds := by
  w_on; o_law; k_head; (case hw => w_witness2)
  k_fill
  refine DL.walk (l := PySem.Challenge.rw_crowdsay_k83_sentences_written_and_read) (k := 60) rfl rfl ⟨rfl, by decide, by decide⟩ (fun w h Y => PySem.W.kIn_of Y) ?F
  case F =>
    intro w mg fa h KX G hmg
    refine' K83.all_mk KX G hmg ?n_Put ?g_many_of ?l_many_of ?c_many_of ?k_many_of ?g_atoms_of ?l_atoms_of ?c_atoms_of ?k_atoms_of ?g_show_sentence ?l_show_sentence ?c_show_sentence ?k_show_sentence ?g_number_in ?l_number_in ?c_number_in ?k_number_in ?g_simple_in ?l_simple_in ?c_simple_in ?k_simple_in ?g_places_between ?l_places_between ?c_places_between ?k_places_between ?g_both_in ?l_both_in ?c_both_in ?k_both_in ?g_sentence_in ?l_sentence_in ?c_sentence_in ?k_sentence_in ?g_read_sentence ?l_read_sentence ?c_read_sentence ?k_read_sentence ?g_common_part ?l_common_part ?c_common_part ?k_common_part ?g_wheel_of ?l_wheel_of ?c_wheel_of ?k_wheel_of ?g_breaking ?l_breaking ?c_breaking ?k_breaking ?g_sought_by ?l_sought_by ?c_sought_by ?k_sought_by ?g_Put_init ?i_Put_init ?l_Put_init ?c_Put_init ?k_Put_init ?w_Put_init_by ?g_Put_weights_in ?i_Put_weights_in ?l_Put_weights_in ?c_Put_weights_in ?k_Put_weights_in ?g_Put_into ?i_Put_into ?l_Put_into ?c_Put_into ?k_Put_into ?g_Put_is_number ?i_Put_is_number ?l_Put_is_number ?c_Put_is_number ?k_Put_is_number ?g_puts_at ?l_puts_at ?c_puts_at ?k_puts_at ?g_any_of ?l_any_of ?c_any_of ?k_any_of ?g_plainly_some ?l_plainly_some ?c_plainly_some ?k_plainly_some ?g_plainly ?l_plainly ?c_plainly ?k_plainly ?g__law_mix ?l__law_mix ?c__law_mix ?k__law_mix ?g__law_jar ?l__law_jar ?c__law_jar ?k__law_jar ?g__law_pick ?l__law_pick ?c__law_pick ?k__law_pick ?g__law_simple ?l__law_simple ?c__law_simple ?k__law_simple ?g__law_sentence ?l__law_sentence ?c__law_sentence ?k__law_sentence ?g__law_written ?l__law_written ?c__law_written ?k__law_written ?g__law_same ?l__law_same ?c__law_same ?k__law_same ?g_law ?l_law ?c_law ?k_law ?pg_Put ?hd_Put ?po_Put ?sa_Put ?mk_Put ?kp_Put ?na_parts_Put ?na_slopes_Put ?na_start_Put ?v_GREATEST_BOUND ?v_GREATEST_PART ?v_GREATEST_WEIGHT ?v_MOST_WEIGHTS ?v_MOST_WITHIN ?tg_DEEPER ?tl_DEEPER ?tt_DEEPER ?tg_NUMBERS ?tl_NUMBERS ?tt_NUMBERS ?z_abs ?z_all ?z_bool ?z_enumerate ?z_int ?z_isinstance ?z_len ?z_list ?z_range ?z_str ?z_tuple ?z_zip K83.law_true
    (case n_Put => k_is)
    (case g_many_of => k_is)
    (case l_many_of => k_is)
    (case c_many_of => k_is)
    (case k_many_of => k_is)
    (case g_atoms_of => k_is)
    (case l_atoms_of => k_is)
    (case c_atoms_of => k_is)
    (case k_atoms_of => k_is)
    (case g_show_sentence => k_is)
    (case l_show_sentence => k_is)
    (case c_show_sentence => k_is)
    (case k_show_sentence => k_is)
    (case g_number_in => k_is)
    (case l_number_in => k_is)
    (case c_number_in => k_is)
    (case k_number_in => k_is)
    (case g_simple_in => k_is)
    (case l_simple_in => k_is)
    (case c_simple_in => k_is)
    (case k_simple_in => k_is)
    (case g_places_between => k_is)
    (case l_places_between => k_is)
    (case c_places_between => k_is)
    (case k_places_between => k_is)
    (case g_both_in => k_is)
    (case l_both_in => k_is)
    (case c_both_in => k_is)
    (case k_both_in => k_is)
    (case g_sentence_in => k_is)
    (case l_sentence_in => k_is)
    (case c_sentence_in => k_is)
    (case k_sentence_in => k_is)
    (case g_read_sentence => k_is)
    (case l_read_sentence => k_is)
    (case c_read_sentence => k_is)
    (case k_read_sentence => k_is)
    (case g_common_part => k_is)
    (case l_common_part => k_is)
    (case c_common_part => k_is)
    (case k_common_part => k_is)
    (case g_wheel_of => k_is)
    (case l_wheel_of => k_is)
    (case c_wheel_of => k_is)
    (case k_wheel_of => k_is)
    (case g_breaking => k_is)
    (case l_breaking => k_is)
    (case c_breaking => k_is)
    (case k_breaking => k_is)
    (case g_sought_by => k_is)
    (case l_sought_by => k_is)
    (case c_sought_by => k_is)
    (case k_sought_by => k_is)
    (case g_Put_init => k_is)
    (case i_Put_init => k_is)
    (case l_Put_init => k_is)
    (case c_Put_init => k_is)
    (case k_Put_init => k_is)
    (case w_Put_init_by => k_is)
    (case g_Put_weights_in => k_is)
    (case i_Put_weights_in => k_is)
    (case l_Put_weights_in => k_is)
    (case c_Put_weights_in => k_is)
    (case k_Put_weights_in => k_is)
    (case g_Put_into => k_is)
    (case i_Put_into => k_is)
    (case l_Put_into => k_is)
    (case c_Put_into => k_is)
    (case k_Put_into => k_is)
    (case g_Put_is_number => k_is)
    (case i_Put_is_number => k_is)
    (case l_Put_is_number => k_is)
    (case c_Put_is_number => k_is)
    (case k_Put_is_number => k_is)
    (case g_puts_at => k_is)
    (case l_puts_at => k_is)
    (case c_puts_at => k_is)
    (case k_puts_at => k_is)
    (case g_any_of => k_is)
    (case l_any_of => k_is)
    (case c_any_of => k_is)
    (case k_any_of => k_is)
    (case g_plainly_some => k_is)
    (case l_plainly_some => k_is)
    (case c_plainly_some => k_is)
    (case k_plainly_some => k_is)
    (case g_plainly => k_is)
    (case l_plainly => k_is)
    (case c_plainly => k_is)
    (case k_plainly => k_is)
    (case g__law_mix => k_is)
    (case l__law_mix => k_is)
    (case c__law_mix => k_is)
    (case k__law_mix => k_is)
    (case g__law_jar => k_is)
    (case l__law_jar => k_is)
    (case c__law_jar => k_is)
    (case k__law_jar => k_is)
    (case g__law_pick => k_is)
    (case l__law_pick => k_is)
    (case c__law_pick => k_is)
    (case k__law_pick => k_is)
    (case g__law_simple => k_is)
    (case l__law_simple => k_is)
    (case c__law_simple => k_is)
    (case k__law_simple => k_is)
    (case g__law_sentence => k_is)
    (case l__law_sentence => k_is)
    (case c__law_sentence => k_is)
    (case k__law_sentence => k_is)
    (case g__law_written => k_is)
    (case l__law_written => k_is)
    (case c__law_written => k_is)
    (case k__law_written => k_is)
    (case g__law_same => k_is)
    (case l__law_same => k_is)
    (case c__law_same => k_is)
    (case k__law_same => k_is)
    (case g_law => k_is)
    (case l_law => k_is)
    (case c_law => k_is)
    (case k_law => k_is)
    (case pg_Put => k_is)
    (case hd_Put => k_is)
    (case po_Put => k_is)
    (case sa_Put => k_is)
    (case mk_Put => k_is)
    (case kp_Put => k_is)
    (case na_parts_Put => k_is)
    (case na_slopes_Put => k_is)
    (case na_start_Put => k_is)
    (case v_GREATEST_BOUND => k_is)
    (case v_GREATEST_PART => k_is)
    (case v_GREATEST_WEIGHT => k_is)
    (case v_MOST_WEIGHTS => k_is)
    (case v_MOST_WITHIN => k_is)
    (case tg_DEEPER => k_is)
    (case tl_DEEPER => k_is)
    (case tt_DEEPER => exact ⟨rfl, ⟨⟨_, rfl⟩, rfl, ⟨_, rfl⟩⟩, ⟨⟨_, rfl⟩, rfl, ⟨_, rfl⟩⟩, trivial⟩)
    (case tg_NUMBERS => k_is)
    (case tl_NUMBERS => k_is)
    (case tt_NUMBERS => exact ⟨rfl, ⟨⟨_, rfl⟩, rfl, ⟨_, rfl⟩⟩, ⟨⟨_, rfl⟩, rfl, ⟨_, rfl⟩⟩, trivial⟩)
    (case z_abs => k_is)
    (case z_all => k_is)
    (case z_bool => k_is)
    (case z_enumerate => k_is)
    (case z_int => k_is)
    (case z_isinstance => k_is)
    (case z_len => k_is)
    (case z_list => k_is)
    (case z_range => k_is)
    (case z_str => k_is)
    (case z_tuple => k_is)
    (case z_zip => k_is)

