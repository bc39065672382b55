import PyProof.Rows.All
import Wide.All
import OpenK.AllK
import Wide.FinOn
import KE.KStateDown
import Lean
import HandS.Base
import HandS.Call
import HandS.List
import HandS.Comp
import HandS.Ends
import HandS.Dict
import HandS.Iter
import HandS.Text
import HandS.More
import HandS.Exc
import HandS.TryOnly
import HandS.TryMany
import HandS.ExcOwn
import HandS.ExcInit
import HandS.ExcField
import HandS.ExcIs
import HandS.CallSlots
import HandS.Defaults
import HandS.Words
import HandS.WordsList
import HandS.WordsDict
import HandS.WordsExc
import HandS.Evl
import HandS.Steps
import HandS.Conv
import HandS.FStr
import HandS.IsInst
import HandS.Property
import HandS.ClsMeth
import HandS.Star
import HandS.Head0
import HandS.Head1
import HandS.Head2
import HandS.HeadEnd
import HandS.HeadHook1
import HandS.HeadHook2
import HandS.Strs
import HandS.HeadNt
import HandS.Deep
import HandS.RaiseMore
import HandS.NamedTupGet
import PySem.Challenge.RW_heardby_k15_limits
section
set_option Elab.async false
set_option linter.all false
set_option maxRecDepth 100000
set_option maxHeartbeats 4000000
/-! A data level over the hand layer: immutable data D, mutable objects by number (own n) in a store; each Python construct is a function over these, and its rule ties it to the layer. -/
namespace HB
open PySem PySem.Spec L2
open PyProof.Rows hiding St
open Evl (Ex ex_t ex_l ex_rd)

/-! ### data, values, store -/
inductive D where
  | non | bl (b : Bool) | int (i : Int) | str (x : Str) | tup (ds : List D) | lst (ds : List D) | fl (ds : List D) | ob (c : Str) (ns : List Str) (ds : List D)
structure Err where
  c : Str
  ns : List Str
  ds : List D
/-- data; a thing that is changed, by its number; an exception in hand, its own dict, what it says -/
inductive U where
  | d (x : D) | own (n : Nat) | exc (a : Addr) (dd : Option Addr) (x : Err)
inductive Cell where
  | lst (us : List U) | ins (c : Str) (fs : List (Str × U)) | dead
abbrev Store := List Cell
abbrev DEnv := List (Option U)
inductive Out (β : Type) where
  | ok (b : β) (μ : Store) | err (x : Err) (μ : Store) | stuck
inductive OutS where
  | nx (δ : DEnv) (μ : Store) | ret (u : U) (μ : Store) | brk (δ : DEnv) (μ : Store) | cnt (δ : DEnv) (μ : Store) | err (x : Err) (δ : DEnv) (μ : Store) | stuck
def Out.bind {β γ : Type} (r : Out β) (k : β → Store → Out γ) : Out γ := match r with
  | .ok b μ => k b μ
  | .err x μ => .err x μ
  | .stuck => .stuck

/-! ### how data lie in the heap -/
mutual
inductive Rep (K : PySem.W.Frag) (G : Hp) : V → D → Prop
  | non : Rep K G .non .non
  | bl {b} : Rep K G (.bl b) (.bl b)
  | int {i} : Rep K G (.int i) (.int i)
  | str {x} : Rep K G (.str x) (.str x)
  | tup {a xs ds} : SqT K G a xs → RepL K G xs ds → Rep K G (.ref a) (.tup ds)
  | lst {a xs ds} : G a = some (.lst xs) → RepL K G xs ds → Rep K G (.ref a) (.lst ds)
  | fl {a xs ds} : SqL K G a xs → RepL K G xs ds → Rep K G (.ref a) (.fl ds)
  | ob {a dx c ns vs ds} : G a = some (.ins (He.ga K c) dx (ns.zip vs)) → vs.length = ns.length → RepL K G vs ds → Rep K G (.ref a) (.ob c ns ds)
inductive RepL (K : PySem.W.Frag) (G : Hp) : List V → List D → Prop
  | nil : RepL K G [] []
  | cons {v d vs ds} : Rep K G v d → RepL K G vs ds → RepL K G (v :: vs) (d :: ds)
end
mutual
theorem Rep.mono {K : PySem.W.Frag} {G G' : Hp} (e : Ex G G') : ∀ {v : V} {d : D}, Rep K G v d → Rep K G' v d
  | _, _, .non => .non
  | _, _, .bl => .bl
  | _, _, .int => .int
  | _, _, .str => .str
  | _, _, .tup h r => .tup (ex_t e h) (RepL.mono e r)
  | _, _, .lst h r => .lst (e _ _ h) (RepL.mono e r)
  | _, _, .fl h r => .fl (ex_l e h) (RepL.mono e r)
  | _, _, .ob h l r => .ob (e _ _ h) l (RepL.mono e r)
theorem RepL.mono {K : PySem.W.Frag} {G G' : Hp} (e : Ex G G') : ∀ {vs : List V} {ds : List D}, RepL K G vs ds → RepL K G' vs ds
  | _, _, .nil => .nil
  | _, _, .cons h r => .cons (Rep.mono e h) (RepL.mono e r)
end
theorem RepL.length {K : PySem.W.Frag} {G : Hp} : ∀ {vs : List V} {ds : List D}, RepL K G vs ds → vs.length = ds.length
  | _, _, .nil => rfl
  | _, _, .cons _ r => congrArg Nat.succ (RepL.length r)
theorem RepL.get {K : PySem.W.Frag} {G : Hp} : ∀ {vs : List V} {ds : List D}, RepL K G vs ds → ∀ (i : Nat) (d : D), ds[i]? = some d → ∃ v, vs[i]? = some v ∧ Rep K G v d
  | _, _, .nil, i, d, e => by simp at e
  | _, _, .cons h r, 0, d, e => by simp at e; subst e; exact ⟨_, rfl, h⟩
  | _, _, .cons h r, i + 1, d, e => by
    obtain ⟨v, e1, e2⟩ := RepL.get r i d (by simpa using e)
    exact ⟨v, by simpa using e1, e2⟩
theorem RepL.append {K : PySem.W.Frag} {G : Hp} : ∀ {vs ws : List V} {ds es : List D}, RepL K G vs ds → RepL K G ws es → RepL K G (vs ++ ws) (ds ++ es)
  | _, _, _, _, .nil, s => s
  | _, _, _, _, .cons r t, s => .cons r (RepL.append t s)
theorem RepL.drop {K : PySem.W.Frag} {G : Hp} : ∀ {vs : List V} {ds : List D} (n : Nat), RepL K G vs ds → RepL K G (vs.drop n) (ds.drop n)
  | _, _, 0, r => r
  | _, _, _ + 1, .nil => .nil
  | _, _, n + 1, .cons _ t => RepL.drop n t
theorem RepL.take {K : PySem.W.Frag} {G : Hp} : ∀ {vs : List V} {ds : List D} (n : Nat), RepL K G vs ds → RepL K G (vs.take n) (ds.take n)
  | _, _, 0, _ => .nil
  | _, _, _ + 1, .nil => .nil
  | _, _, n + 1, .cons r t => .cons r (RepL.take n t)
/-- an exception's class and fields: those without fields have no dict -/
def XRep (K : PySem.W.Frag) (G : Hp) (dd : Option Addr) (x : Err) : Prop := match x.ns with
  | [] => dd = none
  | _ :: _ => ∃ (d : Addr) (vs : List V), dd = some d ∧ G d = some (.xd (x.ns.zip vs)) ∧ vs.length = x.ns.length ∧ RepL K G vs x.ds
theorem XRep.mono {K : PySem.W.Frag} {G G' : Hp} (e : Ex G G') {dd : Option Addr} {x : Err} (h : XRep K G dd x) : XRep K G' dd x := by
  unfold XRep at h ⊢
  split
  · rename_i q
    rw [q] at h
    exact h
  · rename_i q
    rw [q] at h
    obtain ⟨d, vs, h1, h2, h3, h4⟩ := h
    rw [q]
    exact ⟨d, vs, h1, e _ _ h2, h3, h4.mono e⟩
def RepU (K : PySem.W.Frag) (G : Hp) (α : List Addr) (v : V) : U → Prop
  | .d x => Rep K G v x
  | .own n => ∃ a, α[n]? = some a ∧ v = .ref a
  | .exc a dd x => v = .ref a ∧ XRep K G dd x
theorem pre_get {α : Type} {l m : List α} {i : Nat} {x : α} (h : l[i]? = some x) : (l ++ m)[i]? = some x := by
  rw [List.getElem?_append_left (List.getElem?_eq_some_iff.mp h).1]
  exact h
theorem RepU.mono {K : PySem.W.Frag} {G G' : Hp} {α β : List Addr} (e : Ex G G') {v : V} {u : U} (h : RepU K G α v u) : RepU K G' (α ++ β) v u := by
  cases u with
  | d x => exact Rep.mono e h
  | own n =>
    obtain ⟨a, h1, h2⟩ := h
    exact ⟨a, pre_get h1, h2⟩
  | exc a dd x => exact ⟨h.1, h.2.mono e⟩
abbrev RepUL (K : PySem.W.Frag) (G : Hp) (α : List Addr) : List V → List U → Prop := Paired (RepU K G α)
theorem RepUL.mono {K : PySem.W.Frag} {G G' : Hp} {α β : List Addr} (e : Ex G G') {vs : List V} {us : List U} (h : RepUL K G α vs us) : RepUL K G' (α ++ β) vs us := Paired.mapP h fun _ _ r => r.mono e
theorem RepUL.get {K : PySem.W.Frag} {G : Hp} {α : List Addr} : ∀ {vs : List V} {us : List U}, RepUL K G α vs us → ∀ (i : Nat) (u : U), us[i]? = some u → ∃ v, vs[i]? = some v ∧ RepU K G α v u
  | _, _, .nil, i, d, e => by simp at e
  | _, _, .cons h r, 0, d, e => by simp at e; subst e; exact ⟨_, rfl, h⟩
  | _, _, .cons h r, i + 1, d, e => by
    obtain ⟨v, e1, e2⟩ := RepUL.get r i d (by simpa using e)
    exact ⟨v, by simpa using e1, e2⟩
/-- fields, name by name -/
abbrev RepF (K : PySem.W.Frag) (G : Hp) (α : List Addr) : List (Str × V) → List (Str × U) → Prop := Paired fun p q => p.1 = q.1 ∧ RepU K G α p.2 q.2
def CellOk (K : PySem.W.Frag) (G : Hp) (α : List Addr) (H : Hp) (a : Addr) : Cell → Prop
  | .lst us => G a = none ∧ ∃ xs, H a = some (.lst xs) ∧ RepUL K G α xs us
  | .ins c fs => G a = none ∧ ∃ dx vs, H a = some (.ins (He.ga K c) dx vs) ∧ RepF K G α vs fs
  | .dead => ∃ o, H a = some o
structure Ok (K : PySem.W.Frag) (G : Hp) (α : List Addr) (H : Hp) (μ : Store) : Prop where
  ex : Ex G H
  len : α.length = μ.length
  nd : α.Nodup
  cell : ∀ (n : Nat) (a : Addr) (c : Cell), α[n]? = some a → μ[n]? = some c → CellOk K G α H a c
theorem Ok.there {K : PySem.W.Frag} {G : Hp} {α : List Addr} {H : Hp} {μ : Store} (ok : Ok K G α H μ) {a : Addr} (h : a ∈ α) : ∃ o, H a = some o := by
  obtain ⟨n, hn⟩ := List.getElem?_of_mem h
  have hl : n < μ.length := by rw [← ok.len]; exact (List.getElem?_eq_some_iff.mp hn).1
  have k := ok.cell n a _ hn (List.getElem?_eq_getElem hl)
  generalize μ[n] = c at k
  cases c with
  | lst us =>
    obtain ⟨_, xs, k, _⟩ := k
    exact ⟨_, k⟩
  | ins c fs =>
    obtain ⟨_, dx, vs, k, _⟩ := k
    exact ⟨_, k⟩
  | dead => exact k
theorem Ok.free {K : PySem.W.Frag} {G : Hp} {α : List Addr} {H : Hp} {μ : Store} (ok : Ok K G α H μ) {a : Addr} (h : H a = none) : a ∉ α := fun ha => by
  obtain ⟨o, e⟩ := ok.there ha
  rw [h] at e
  cases e
structure Stp (G : Hp) (α : List Addr) (H : Hp) (G' : Hp) (α' : List Addr) (H' : Hp) : Prop where
  g : Ex G G'
  a : ∃ β, α' = α ++ β
  h : ∀ b o, b ∉ α → H b = some o → H' b = some o
  f : ∀ b, b ∈ α' → b ∉ α → H b = none
  n : ∀ b o, b ∉ α → H b = some o → G b = none → G' b = none
theorem Stp.refl (G : Hp) (α : List Addr) (H : Hp) : Stp G α H G α H := ⟨Ex.refl G, ⟨[], by simp⟩, fun _ _ _ h => h, fun b h1 h2 => absurd h1 h2, fun _ _ _ _ h => h⟩
theorem Stp.trans {G G1 G2 : Hp} {α α1 α2 : List Addr} {H H1 H2 : Hp} (s : Stp G α H G1 α1 H1) (t : Stp G1 α1 H1 G2 α2 H2) : Stp G α H G2 α2 H2 := by
  refine ⟨s.g.trans t.g, ?_, fun b o nb e => ?_, fun b h1 h2 => ?_, fun b o nb e g => ?_⟩
  · obtain ⟨β, e1⟩ := s.a
    obtain ⟨γ, e2⟩ := t.a
    exact ⟨β ++ γ, by rw [e2, e1, List.append_assoc]⟩
  · refine t.h b o (fun hb => ?_) (s.h b o nb e)
    rw [s.f b hb nb] at e
    cases e
  · by_cases hb : b ∈ α1
    · exact s.f b hb h2
    · have e := t.f b h1 hb
      cases q : H b with
      | none => rfl
      | some o =>
        rw [s.h b o h2 q] at e
        cases e
  · refine t.n b o (fun hb => ?_) (s.h b o nb e) (s.n b o nb e g)
    rw [s.f b hb nb] at e
    cases e
theorem Stp.rep {K : PySem.W.Frag} {G G1 : Hp} {α α1 : List Addr} {H H1 : Hp} (s : Stp G α H G1 α1 H1) {v : V} {u : U} (h : RepU K G α v u) : RepU K G1 α1 v u := by
  obtain ⟨β, e⟩ := s.a
  rw [e]
  exact h.mono s.g
theorem Stp.repL {K : PySem.W.Frag} {G G1 : Hp} {α α1 : List Addr} {H H1 : Hp} (s : Stp G α H G1 α1 H1) {v : List V} {u : List U} (h : RepUL K G α v u) : RepUL K G1 α1 v u := Paired.mapP h fun _ _ r => s.rep r
/-- slots -/
structure RepE (K : PySem.W.Frag) (G : Hp) (α : List Addr) (σ : St) (δ : DEnv) : Prop where
  len : σ.length = δ.length
  at_ : ∀ (i : Nat) (u : U), δ[i]? = some (some u) → ∃ v, σ[i]? = some (some v) ∧ RepU K G α v u
theorem RepE.step {K : PySem.W.Frag} {G G1 : Hp} {α α1 : List Addr} {H H1 : Hp} {σ : St} {δ : DEnv} (r : RepE K G α σ δ) (s : Stp G α H G1 α1 H1) : RepE K G1 α1 σ δ :=
  ⟨r.len, fun i u e => let ⟨v, h1, h2⟩ := r.at_ i u e; ⟨v, h1, s.rep h2⟩⟩
theorem RepE.set {K : PySem.W.Frag} {G : Hp} {α : List Addr} {σ : St} {δ : DEnv} (r : RepE K G α σ δ) {v : V} {u : U} (i : Nat) (h : RepU K G α v u) : RepE K G α (σ.set i (some v)) (δ.set i (some u)) := by
  refine ⟨by rw [List.length_set, List.length_set]; exact r.len, fun j w e => ?_⟩
  by_cases hj : i = j
  · subst hj
    by_cases hl : i < δ.length
    · rw [List.getElem?_set_self hl] at e
      cases e
      exact ⟨v, List.getElem?_set_self (by rw [r.len]; exact hl), h⟩
    · rw [List.getElem?_eq_none (by rw [List.length_set]; omega)] at e
      cases e
  · rw [List.getElem?_set_ne hj] at e
    obtain ⟨v', h1, h2⟩ := r.at_ j w e
    exact ⟨v', by rw [List.getElem?_set_ne hj]; exact h1, h2⟩
theorem RepE.unset {K : PySem.W.Frag} {G : Hp} {α : List Addr} {σ : St} {δ : DEnv} (r : RepE K G α σ δ) (i : Nat) (o : Option V) : RepE K G α (σ.set i o) (δ.set i none) := by
  refine ⟨by rw [List.length_set, List.length_set]; exact r.len, fun j w e => ?_⟩
  by_cases hj : i = j
  · subst hj
    by_cases hl : i < δ.length
    · rw [List.getElem?_set_self hl] at e
      cases e
    · rw [List.getElem?_eq_none (by rw [List.length_set]; omega)] at e
      cases e
  · rw [List.getElem?_set_ne hj] at e
    obtain ⟨v', h1, h2⟩ := r.at_ j w e
    exact ⟨v', by rw [List.getElem?_set_ne hj]; exact h1, h2⟩
/-! ### what is wanted behind a piece -/
section
variable {γ β γ' β' : Type}
def Pg (ρ : Hp → List Addr → γ → β → Prop) (K : PySem.W.Frag) (G : Hp) (α : List Addr) (H : Hp) (σ : St) (r : Out β) (Q : γ → Hp → Prop) (W : WX) : Prop := match r with
  | .ok b μ' => ∀ v G' α' H', Ok K G' α' H' μ' → Stp G α H G' α' H' → ρ G' α' v b → Q v H'
  | .err x μ' => ∀ dd G' α' H', Ok K G' α' H' μ' → Stp G α H G' α' H' → XRep K G' dd x → W (.ref (He.ga K x.c)) dd σ H'
  | .stuck => False
variable {ρ : Hp → List Addr → γ → β → Prop} {ρ' : Hp → List Addr → γ' → β' → Prop} {K : PySem.W.Frag} {G G1 : Hp} {α α1 : List Addr} {H H1 : Hp} {σ : St} {W : WX} {μ μ1 : Store}
theorem Pg.step {r : Out β} {Q : γ → Hp → Prop} (s : Stp G α H G1 α1 H1) (h : Pg ρ K G α H σ r Q W) : Pg ρ K G1 α1 H1 σ r Q W := by
  cases r with
  | ok b μ' => exact fun v G' α' H' ok st rv => h v G' α' H' ok (s.trans st) rv
  | err x μ' => exact fun dd G' α' H' ok st rv => h dd G' α' H' ok (s.trans st) rv
  | stuck => exact h
theorem Pg.bind {r : Out β} {k : β → Store → Out β'} {Q : γ' → Hp → Prop} {R : γ → Hp → Prop} (h : Pg ρ' K G α H σ (r.bind k) Q W)
    (hk : ∀ b μ1 v G1 α1 H1, Ok K G1 α1 H1 μ1 → Stp G α H G1 α1 H1 → ρ G1 α1 v b → Pg ρ' K G1 α1 H1 σ (k b μ1) Q W → R v H1) : Pg ρ K G α H σ r R W := by
  cases r with
  | ok b μ' => exact fun v G' α' H' ok st rv => hk b μ' v G' α' H' ok st rv (Pg.step st h)
  | err x μ' => exact h
  | stuck => exact h
theorem Pg.now {b : β} {v : γ} {Q : γ → Hp → Prop} (ok : Ok K G α H μ) (rv : ρ G α v b) (h : Pg ρ K G α H σ (.ok b μ) Q W) : Q v H := h v G α H ok (Stp.refl G α H) rv
end
abbrev ρU (K : PySem.W.Frag) : Hp → List Addr → V → U → Prop := fun G α v u => RepU K G α v u
abbrev ρL (K : PySem.W.Frag) : Hp → List Addr → List V → List U → Prop := fun G α v u => RepUL K G α v u
abbrev ρB : Hp → List Addr → Bool → Bool → Prop := fun _ _ a b => a = b
/-! ### the judgements -/
def J {γ β : Type} (ρ : Hp → List Addr → γ → β → Prop) (K : PySem.W.Frag) (W : WX) (t : St → Hp → (γ → Hp → Prop) → Prop) (f : DEnv → Store → Out β) : Prop :=
  ∀ G α H σ δ μ Q, Ok K G α H μ → RepE K G α σ δ → Pg ρ K G α H σ (f δ μ) Q W → t σ H Q
def DE (X : Cx) (W : WX) (e : Expr) (f : DEnv → Store → Out U) : Prop := ∃ t, PE X e t ∧ J (ρU X.K) X.K W t f
def DA (X : Cx) (W : WX) (es : List Expr) (f : DEnv → Store → Out (List U)) : Prop := ∃ t, PA X es t ∧ J (ρL X.K) X.K W t f
def DT (X : Cx) (W : WX) (e : Expr) (f : DEnv → Store → Out Bool) : Prop := ∃ t, PT X e t ∧ J ρB X.K W t f
def DW (X : Cx) (W : WX) (e : Expr) (f : DEnv → Store → Out Bool) : Prop := ∃ t, PW X e t ∧ J ρB X.K W t f
/-- what is wanted behind a statement -/
def PgS (K : PySem.W.Frag) (G : Hp) (α : List Addr) (H : Hp) (r : OutS) (N : Ends) (W : WX) : Prop := match r with
  | .nx δ' μ' => ∀ σ' G' α' H', Ok K G' α' H' μ' → Stp G α H G' α' H' → RepE K G' α' σ' δ' → N.nx σ' H'
  | .ret u μ' => ∀ v G' α' H', Ok K G' α' H' μ' → Stp G α H G' α' H' → RepU K G' α' v u → N.rt v H'
  | .brk δ' μ' => ∀ σ' G' α' H', Ok K G' α' H' μ' → Stp G α H G' α' H' → RepE K G' α' σ' δ' → N.bk σ' H'
  | .cnt δ' μ' => ∀ σ' G' α' H', Ok K G' α' H' μ' → Stp G α H G' α' H' → RepE K G' α' σ' δ' → N.ct σ' H'
  | .err x δ' μ' => ∀ dd σ' G' α' H', Ok K G' α' H' μ' → Stp G α H G' α' H' → RepE K G' α' σ' δ' → XRep K G' dd x → W (.ref (He.ga K x.c)) dd σ' H'
  | .stuck => False
theorem PgS.step {K : PySem.W.Frag} {G G1 : Hp} {α α1 : List Addr} {H H1 : Hp} {W : WX} {r : OutS} {N : Ends} (s : Stp G α H G1 α1 H1) (h : PgS K G α H r N W) : PgS K G1 α1 H1 r N W := by
  cases r with
  | nx δ' μ' => exact fun v G' α' H' ok st rv => h v G' α' H' ok (s.trans st) rv
  | ret u μ' => exact fun v G' α' H' ok st rv => h v G' α' H' ok (s.trans st) rv
  | brk δ' μ' => exact fun v G' α' H' ok st rv => h v G' α' H' ok (s.trans st) rv
  | cnt δ' μ' => exact fun v G' α' H' ok st rv => h v G' α' H' ok (s.trans st) rv
  | err x δ' μ' => exact fun dd v G' α' H' ok st rv => h dd v G' α' H' ok (s.trans st) rv
  | stuck => exact h
def JS (K : PySem.W.Frag) (W : WX) (t : TS) (f : DEnv → Store → OutS) : Prop :=
  ∀ G α H σ δ μ N, Ok K G α H μ → RepE K G α σ δ → PgS K G α H (f δ μ) N W → t N σ H
def DS (X : Cx) (W : WX) (s : Stmt) (f : DEnv → Store → OutS) : Prop := ∃ t, PS X s t ∧ JS X.K W t f
def DSs (X : Cx) (W : WX) (s : List Stmt) (f : DEnv → Store → OutS) : Prop := ∃ t, PSs X s t ∧ JS X.K W t f
end HB
end
section
set_option Elab.async false
set_option linter.all false
set_option maxRecDepth 100000
set_option maxHeartbeats 4000000
namespace HB
open PySem PySem.Spec L2
open PyProof.Rows hiding St
open Evl (Ex ex_t ex_l ex_rd)
/-! ### names, constants -/
def eVar (i : Nat) : DEnv → Store → Out U := fun δ μ => match δ[i]? with
  | some (some u) => .ok u μ
  | _ => .stuck
def eC (d : D) : DEnv → Store → Out U := fun _ μ => .ok (.d d) μ
section
variable {X : Cx} {W : WX}
theorem de_var (i : Nat) {x : Str} {pos : Pos} (hN : X.N[i]? = some x := by rfl) (hv : Vis X.env.scope x := by first | exact Or.inl rfl | exact Or.inr (Or.inl rfl) | exact Or.inr (Or.inr rfl)) (hd : (x == ("__debug__" : Str)) = false := by decide)
    (hcd : (x == ("__classdict__" : Str)) = false := by decide) : DE X W (.Name x pos) (eVar i) := by
  refine ⟨tVar i, pe_var hN hv hd hcd, fun G α H σ δ μ Q ok re h => ?_⟩
  unfold eVar at h
  split at h
  · rename_i u e
    obtain ⟨v, e1, r⟩ := re.at_ i u e
    exact ⟨v, e1, Pg.now ok r h⟩
  · exact h.elim
theorem de_c {e : Expr} {v : V} {d : D} (h : PE X e (tC v)) (r : ∀ G, Rep X.K G v d) : DE X W e (eC d) :=
  ⟨tC v, h, fun G α H σ δ μ Q ok re h => Pg.now (ρ := ρU X.K) ok (show RepU X.K G α v (.d d) from r G) h⟩
theorem de_int {i j pos} : DE X W (.Constant (.int i) j pos) (eC (.int i)) := de_c pe_int fun _ => .int
theorem de_bl {i j pos} : DE X W (.Constant (.bool i) j pos) (eC (.bl i)) := de_c pe_bl fun _ => .bl
theorem de_non {j pos} : DE X W (.Constant .none j pos) (eC .non) := de_c pe_non fun _ => .non
theorem de_str {i j pos} : DE X W (.Constant (.str i) j pos) (eC (.str i)) := de_c pe_str fun _ => .str
/-- a module's name: an int, a text -/
theorem de_gint {x : Str} {i : Int} {pos : Pos} (hg : Gl X x) (hm : ∃ t, X.mg x = some (.int i t)) (hd : (x == ("__debug__" : Str)) = false := by decide) : DE X W (.Name x pos) (eC (.int i)) := by
  obtain ⟨t, hm⟩ := hm
  exact de_c (pe_glob (v := .int i) hg hm ⟨t, rfl⟩ hd) fun _ => .int
theorem de_gstr {x y : Str} {pos : Pos} (hg : Gl X x) (hm : ∃ t, X.mg x = some (.str y t)) (hd : (x == ("__debug__" : Str)) = false := by decide) : DE X W (.Name x pos) (eC (.str y)) := by
  obtain ⟨t, hm⟩ := hm
  exact de_c (pe_glob (v := .str y) hg hm ⟨t, rfl⟩ hd) fun _ => .str
/-- a module's tuple -/
theorem de_gtup {x : Str} {a : Addr} {ds : List D} {vs : List V} {pos : Pos} (hg : Gl X x) (hm : X.mg x = some (.ref a)) (ht : ∀ G, SqT X.K G a vs) (hr : ∀ G, RepL X.K G vs ds) (hd : (x == ("__debug__" : Str)) = false := by decide) : DE X W (.Name x pos) (eC (.tup ds)) :=
  de_c (pe_glob (v := .ref a) hg hm rfl hd) fun G => .tup (ht G) (hr G)
/-! ### two-place operators -/
def eBin (h : U → U → Store → Out U) (f g : DEnv → Store → Out U) : DEnv → Store → Out U := fun δ μ => (f δ μ).bind fun u μ1 => (g δ μ1).bind fun w μ2 => h u w μ2
def OpB (X : Cx) (W : WX) (F : Value → Value → Sem Value) (h : U → U → Store → Out U) : Prop :=
  ∃ r : R2, OpR X F r ∧ ∀ G α H σ μ x y ux uy Q, Ok X.K G α H μ → RepU X.K G α x ux → RepU X.K G α y uy → Pg (ρU X.K) X.K G α H σ (h ux uy μ) Q W → r x y H Q
theorem jop {r : R2} {h : U → U → Store → Out U} {ta tb : TE} {f g : DEnv → Store → Out U} (ho : ∀ G α H σ μ x y ux uy Q, Ok X.K G α H μ → RepU X.K G α x ux → RepU X.K G α y uy → Pg (ρU X.K) X.K G α H σ (h ux uy μ) Q W → r x y H Q)
    (ha : J (ρU X.K) X.K W ta f) (hb : J (ρU X.K) X.K W tb g) : J (ρU X.K) X.K W (tOp r ta tb) (eBin h f g) := fun G α H σ δ μ Q ok re hp =>
  ha G α H σ δ μ _ ok re (hp.bind fun u μ1 v G1 α1 H1 ok1 s1 r1 hp1 =>
    hb G1 α1 H1 σ δ μ1 _ ok1 (re.step s1) (hp1.bind fun w μ2 v2 G2 α2 H2 ok2 s2 r2 hp2 => ho G2 α2 H2 σ μ2 v v2 u w Q ok2 (s2.rep r1) r2 hp2))
theorem de_bin {op : Operator} {h : U → U → Store → Out U} {a b : Expr} {f g : DEnv → Store → Out U} {pos : Pos} (ho : OpB X W (binaryOp op) h) (ha : DE X W a f) (hb : DE X W b g) : DE X W (.BinOp a op b pos) (eBin h f g) := by
  obtain ⟨r, h1, h2⟩ := ho
  obtain ⟨ta, pa, ja⟩ := ha
  obtain ⟨tb, pb, jb⟩ := hb
  exact ⟨_, pe_op h1 pa pb, jop h2 ja jb⟩
theorem de_cmp {op : CmpOp} {h : U → U → Store → Out U} {a b : Expr} {f g : DEnv → Store → Out U} {pos : Pos} (ho : OpB X W (compareOp op) h) (ha : DE X W a f) (hb : DE X W b g) (hm : behindInMarks op b = false) : DE X W (.Compare a [op] [b] pos) (eBin h f g) := by
  obtain ⟨r, h1, h2⟩ := ho
  obtain ⟨ta, pa, ja⟩ := ha
  obtain ⟨tb, pb, jb⟩ := hb
  exact ⟨_, pe_cmpR h1 pa pb hm, jop h2 ja jb⟩
/-- either of two -/
def orO (h h' : U → U → Store → Out U) : U → U → Store → Out U := fun u w μ => match h u w μ with
  | .stuck => h' u w μ
  | r => r
theorem OpB.or {F : Value → Value → Sem Value} {h h' : U → U → Store → Out U} (a : OpB X W F h) (b : OpB X W F h') : OpB X W F (orO h h') := by
  obtain ⟨r, h1, h2⟩ := a
  obtain ⟨r', h3, h4⟩ := b
  refine ⟨_, h1.or h3, fun G α H σ μ x y ux uy Q ok rx ry hp => ?_⟩
  unfold orO at hp
  cases e : h ux uy μ with
  | stuck =>
    rw [e] at hp
    exact .inr (h4 G α H σ μ x y ux uy Q ok rx ry hp)
  | ok b m =>
    refine .inl (h2 G α H σ μ x y ux uy Q ok rx ry ?_)
    rw [e] at hp ⊢
    exact hp
  | err z m =>
    refine .inl (h2 G α H σ μ x y ux uy Q ok rx ry ?_)
    rw [e] at hp ⊢
    exact hp
/-- ints alone: what is asked, what is given -/
def iiO (c : Int → Int → Bool) (g : Int → Int → D) : U → U → Store → Out U
  | .d (.int i), .d (.int j), μ => match c i j with
    | true => .ok (.d (g i j)) μ
    | false => .stuck
  | _, _, _ => .stuck
theorem iiO_at {c : Int → Int → Bool} {g : Int → Int → D} {G : Hp} {α : List Addr} {H : Hp} {σ : St} {μ : Store} {x y : V} {ux uy : U} {Q : VK} (rx : RepU X.K G α x ux) (ry : RepU X.K G α y uy) (hp : Pg (ρU X.K) X.K G α H σ (iiO c g ux uy μ) Q W) :
    ∃ i j, x = .int i ∧ y = .int j ∧ c i j = true ∧ Pg (ρU X.K) X.K G α H σ (.ok (.d (g i j)) μ) Q W := by
  unfold iiO at hp
  split at hp
  · rename_i i j
    cases rx
    cases ry
    split at hp
    · rename_i e
      exact ⟨i, j, rfl, rfl, e, hp⟩
    · exact hp.elim
  · exact hp.elim
theorem opB_I {F : Value → Value → Sem Value} {C : Int → Int → Prop} {g : Int → Int → V} {c : Int → Int → Bool} {gd : Int → Int → D} (h : OpR X F (rI C g)) (hc : ∀ i j, c i j = true → C i j) (hg : ∀ G i j, Rep X.K G (g i j) (gd i j)) : OpB X W F (iiO c gd) := by
  refine ⟨_, h, fun G α H σ μ x y ux uy Q ok rx ry hp => ?_⟩
  obtain ⟨i, j, rfl, rfl, e, hp⟩ := iiO_at rx ry hp
  exact ⟨i, j, rfl, rfl, hc i j e, Pg.now (ρ := ρU X.K) ok (show RepU X.K G α _ (.d _) from hg G i j) hp⟩
theorem opB_I0 {F : Value → Value → Sem Value} {g : Int → Int → V} {gd : Int → Int → D} (h : OpR X F (rI0 g)) (hg : ∀ G i j, Rep X.K G (g i j) (gd i j)) : OpB X W F (iiO (fun _ _ => true) gd) := by
  refine ⟨_, h, fun G α H σ μ x y ux uy Q ok rx ry hp => ?_⟩
  obtain ⟨i, j, rfl, rfl, e, hp⟩ := iiO_at rx ry hp
  exact ⟨i, j, rfl, rfl, Pg.now (ρ := ρU X.K) ok (show RepU X.K G α _ (.d _) from hg G i j) hp⟩
abbrev tt2 : Int → Int → Bool := fun _ _ => true
abbrev subI := iiO tt2 fun i j => .int (i - j)
abbrev mulI := iiO (fun i j => decide ((-(2 ^ 64) < i ∧ i < 2 ^ 64) ∨ (-(2 ^ 64) < j ∧ j < 2 ^ 64))) fun i j => .int (i * j)
abbrev modI := iiO (fun _ j => decide (0 < j)) fun i j => .int (i % j)
abbrev fdivI := iiO (fun _ j => decide (0 < j ∧ j < 1073741824)) fun i j => .int (i / j)
abbrev powI := iiO (fun i j => decide (0 ≤ j ∧ j ≤ 1000000 ∧ i.natAbs < 2 ^ 64)) fun i j => .int (i ^ j.toNat)
abbrev ltI := iiO tt2 fun i j => .bl (decide (i < j))
abbrev leI := iiO tt2 fun i j => .bl (decide (i ≤ j))
abbrev gtI := iiO tt2 fun i j => .bl (decide (j < i))
abbrev geI := iiO tt2 fun i j => .bl (decide (j ≤ i))
theorem ob_sub : OpB X W (binaryOp .Sub) subI := opB_I0 op_sub fun _ _ _ => .int
theorem ob_mul : OpB X W (binaryOp .Mult) mulI := opB_I op_mul (fun i j h => by unfold CMul; exact of_decide_eq_true h) fun _ _ _ => .int
theorem ob_mod : OpB X W (binaryOp .Mod) modI := opB_I op_mod (fun i j h => by simpa using h) fun _ _ _ => .int
theorem ob_fdiv : OpB X W (binaryOp .FloorDiv) fdivI := opB_I op_fdiv (fun i j h => by unfold CDiv; exact of_decide_eq_true h) fun _ _ _ => .int
theorem ob_pow : OpB X W (binaryOp .Pow) powI := opB_I op_pow (fun i j h => by unfold CPow; exact of_decide_eq_true h) fun _ _ _ => .int
theorem ob_lt : OpB X W (compareOp .Lt) ltI := opB_I0 op_lt fun _ _ _ => .bl
theorem ob_le : OpB X W (compareOp .LtE) leI := opB_I0 op_le fun _ _ _ => .bl
theorem ob_gt : OpB X W (compareOp .Gt) gtI := opB_I0 op_gt fun _ _ _ => .bl
theorem ob_ge : OpB X W (compareOp .GtE) geI := opB_I0 op_ge fun _ _ _ => .bl
/-! ### new objects -/
theorem Ok.new {K : PySem.W.Frag} {G H : Hp} {α : List Addr} {μ : Store} {p : Addr} {o : HO} (ok : Ok K G α H μ) (hp : H p = none) : Ok K (upd G p o) α (upd H p o) μ ∧ Stp G α H (upd G p o) α (upd H p o) ∧ Ex G (upd G p o) := by
  have gp : G p = none := Evl.fresh_back ok.ex hp
  have eg : Ex G (upd G p o) := Ex.new gp
  have nα : ∀ n a c, α[n]? = some a → μ[n]? = some c → CellOk K (upd G p o) α (upd H p o) a c := fun n a c h1 h2 => by
    have k := ok.cell n a c h1 h2
    cases c with
    | lst us =>
      obtain ⟨k1, xs, k2, k3⟩ := k
      have ne : a ≠ p := ne_of_none k2 hp
      exact ⟨by rw [upd_ne ne]; exact k1, xs, by rw [upd_ne ne]; exact k2, Paired.mapP k3 fun _ _ r => by simpa using RepU.mono (β := []) eg r⟩
    | ins c fs =>
      obtain ⟨k1, dx, vs, k2, k3⟩ := k
      have ne : a ≠ p := ne_of_none k2 hp
      exact ⟨by rw [upd_ne ne]; exact k1, dx, vs, by rw [upd_ne ne]; exact k2, Paired.mapP k3 fun _ _ r => ⟨r.1, by simpa using RepU.mono (β := []) eg r.2⟩⟩
    | dead =>
      obtain ⟨o1, k⟩ := k
      exact ⟨o1, by rw [upd_ne (ne_of_none k hp)]; exact k⟩
  refine ⟨⟨fun a o' e => ?_, ok.len, ok.nd, nα⟩, ⟨eg, ⟨[], by simp⟩, fun b o' nb e => ?_, fun b h1 h2 => absurd h1 h2, fun b o' nb e g => by rw [upd_ne (ne_of_none e hp)]; exact g⟩, eg⟩
  · by_cases ha : a = p
    · subst ha
      rw [upd_same] at e ⊢
      exact e
    · rw [upd_ne ha] at e ⊢
      exact ok.ex a o' e
  · rw [upd_ne (ne_of_none e hp)]
    exact e
/-- a new thing tracked, of which the data level knows nothing -/
theorem Ok.aside {K : PySem.W.Frag} {G H : Hp} {α : List Addr} {μ : Store} {p : Addr} {o : HO} (ok : Ok K G α H μ) (hp : H p = none) : Ok K G α (upd H p o) μ ∧ Stp G α H G α (upd H p o) := by
  refine ⟨⟨fun a o' e => ?_, ok.len, ok.nd, fun n a c h1 h2 => ?_⟩, ⟨Ex.refl G, ⟨[], by simp⟩, fun b o' nb e => ?_, fun b h1 h2 => absurd h1 h2, fun b o' nb e g => g⟩⟩
  · rw [upd_ne (ne_of_none (ok.ex a o' e) hp)]
    exact ok.ex a o' e
  · have k := ok.cell n a c h1 h2
    cases c with
    | lst us =>
      obtain ⟨k1, xs, k2, k3⟩ := k
      exact ⟨k1, xs, by rw [upd_ne (ne_of_none k2 hp)]; exact k2, k3⟩
    | ins c fs =>
      obtain ⟨k1, dx, vs, k2, k3⟩ := k
      exact ⟨k1, dx, vs, by rw [upd_ne (ne_of_none k2 hp)]; exact k2, k3⟩
    | dead =>
      obtain ⟨o1, k⟩ := k
      exact ⟨o1, by rw [upd_ne (ne_of_none k hp)]; exact k⟩
  · rw [upd_ne (ne_of_none e hp)]
    exact e
/-- a new cell -/
theorem Ok.newCell {K : PySem.W.Frag} {G H : Hp} {α : List Addr} {μ : Store} {p : Addr} {o : HO} {c : Cell} (ok : Ok K G α H μ) (hp : H p = none) (hc : CellOk K G (α ++ [p]) (upd H p o) p c) :
    Ok K G (α ++ [p]) (upd H p o) (μ ++ [c]) ∧ Stp G α H G (α ++ [p]) (upd H p o) := by
  have gp : G p = none := Evl.fresh_back ok.ex hp
  have np : p ∉ α := ok.free hp
  refine ⟨⟨fun a o' e => ?_, by rw [List.length_append, List.length_append, ok.len]; rfl, ?_, fun n a c' h1 h2 => ?_⟩, ⟨Ex.refl G, ⟨[p], rfl⟩, fun b o' nb e => ?_, fun b h1 h2 => ?_, fun b o' nb e g => g⟩⟩
  · rw [upd_ne (ne_of_none (ok.ex a o' e) hp)]
    exact ok.ex a o' e
  · rw [List.nodup_append]
    refine ⟨ok.nd, by simp, fun a ha b hb => ?_⟩
    simp at hb
    subst hb
    intro e
    subst e
    exact np ha
  · by_cases hn : n < α.length
    · rw [List.getElem?_append_left hn] at h1
      rw [List.getElem?_append_left (by rw [← ok.len]; exact hn)] at h2
      have k := ok.cell n a c' h1 h2
      cases c' with
      | lst us =>
        obtain ⟨k1, xs, k2, k3⟩ := k
        exact ⟨k1, xs, by rw [upd_ne (ne_of_none k2 hp)]; exact k2, Paired.mapP k3 fun _ _ r => RepU.mono (Ex.refl G) r⟩
      | ins c fs =>
        obtain ⟨k1, dx, vs, k2, k3⟩ := k
        exact ⟨k1, dx, vs, by rw [upd_ne (ne_of_none k2 hp)]; exact k2, Paired.mapP k3 fun _ _ r => ⟨r.1, RepU.mono (Ex.refl G) r.2⟩⟩
      | dead =>
        obtain ⟨o1, k⟩ := k
        exact ⟨o1, by rw [upd_ne (ne_of_none k hp)]; exact k⟩
    · rw [List.getElem?_append_right (by omega)] at h1
      rw [List.getElem?_append_right (by rw [← ok.len]; omega)] at h2
      have e0 : n - α.length = 0 := by
        cases q : n - α.length with
        | zero => rfl
        | succ m =>
          rw [q] at h1
          simp at h1
      rw [e0] at h1
      rw [← ok.len, e0] at h2
      simp at h1 h2
      subst h1 h2
      exact hc
  · rw [upd_ne (ne_of_none e hp)]
    exact e
  · simp at h1
    rcases h1 with h1 | h1
    · exact absurd h1 h2
    · subst h1
      exact hp
end
end HB
end
section
set_option Elab.async false
set_option linter.all false
set_option maxRecDepth 100000
set_option maxHeartbeats 4000000
namespace HB
open PySem PySem.Spec L2
open PyProof.Rows hiding St
open Evl (Ex ex_t ex_l ex_rd)
/-! ### what a list, a tuple holds -/
def lsU (μ : Store) : U → Option (List U)
  | .d (.lst ds) => some (ds.map U.d)
  | .own n => match μ[n]? with
    | some (.lst us) => some us
    | _ => none
  | _ => none
def allD : List U → Option (List D)
  | [] => some []
  | .d x :: r => (allD r).map (x :: ·)
  | _ :: _ => none
/-- a list's or a tuple's items -/
def sqU (μ : Store) : U → Option (List U)
  | .d (.tup ds) => some (ds.map U.d)
  | .d (.fl ds) => some (ds.map U.d)
  | u => lsU μ u
/-- read as data -/
def deepU (μ : Store) : U → Option D
  | .d x => some x
  | .own n => match μ[n]? with
    | some (.lst us) => (allD us).map D.lst
    | _ => none
  | .exc _ _ _ => none
@[simp] theorem allD_map (ds : List D) : allD (ds.map U.d) = some ds := by
  induction ds with
  | nil => rfl
  | cons d r ih => simp [allD, ih]
@[simp] theorem lsU_d (μ : Store) (ds : List D) : lsU μ (.d (.lst ds)) = some (ds.map U.d) := rfl
@[simp] theorem sqU_t (μ : Store) (ds : List D) : sqU μ (.d (.tup ds)) = some (ds.map U.d) := rfl
@[simp] theorem sqU_l (μ : Store) (ds : List D) : sqU μ (.d (.lst ds)) = some (ds.map U.d) := rfl
@[simp] theorem deepU_d (μ : Store) (x : D) : deepU μ (.d x) = some x := rfl
theorem lsU_own {μ : Store} {n : Nat} {us : List U} (h : μ[n]? = some (.lst us)) : lsU μ (.own n) = some us := by simp [lsU, h]
theorem sqU_own {μ : Store} {n : Nat} {us : List U} (h : μ[n]? = some (.lst us)) : sqU μ (.own n) = some us := by simp [sqU, lsU, h]
section
variable {K : PySem.W.Frag} {G H : Hp} {α : List Addr} {μ : Store}
theorem Pg.nowD {σ : St} {x : D} {v : V} {Q : VK} {W : WX} (ok : Ok K G α H μ) (r : Rep K G v x) (h : Pg (ρU K) K G α H σ (.ok (.d x) μ) Q W) : Q v H := h v G α H ok (Stp.refl G α H) r
theorem RepL.toU : ∀ {xs : List V} {ds : List D}, RepL K G xs ds → RepUL K G α xs (ds.map U.d)
  | _, _, .nil => .nil
  | _, _, .cons h r => .cons h (RepL.toU r)
theorem allD_rep : ∀ {xs : List V} {us : List U} {ds : List D}, RepUL K G α xs us → allD us = some ds → RepL K G xs ds
  | _, _, ds, .nil, e => by cases e; exact .nil
  | _, u :: us, ds, .cons h r, e => by
    cases u with
    | own n => cases e
    | exc a dd x => cases e
    | d x =>
      simp only [allD, Option.map_eq_some_iff] at e
      obtain ⟨es, e1, rfl⟩ := e
      exact .cons h (allD_rep r e1)
theorem lsU_at {v : V} {u : U} {us : List U} (ok : Ok K G α H μ) (r : RepU K G α v u) (e : lsU μ u = some us) : ∃ a xs, v = .ref a ∧ H a = some (.lst xs) ∧ RepUL K G α xs us := by
  cases u with
  | d x =>
    cases x with
    | lst ds =>
      cases e
      cases r with
      | lst h r => exact ⟨_, _, rfl, ok.ex _ _ h, r.toU⟩
    | _ => cases e
  | own n =>
    unfold lsU at e
    obtain ⟨a, h1, rfl⟩ := r
    dsimp only at e
    split at e
    · rename_i q
      cases e
      obtain ⟨_, xs, k2, k3⟩ := ok.cell n a _ h1 q
      exact ⟨a, xs, rfl, k2, k3⟩
    · cases e
  | exc a dd x => cases e
theorem sqU_at {v : V} {u : U} {us : List U} (ok : Ok K G α H μ) (r : RepU K G α v u) (e : sqU μ u = some us) : ∃ a xs, v = .ref a ∧ (SqL K H a xs ∨ SqT K H a xs) ∧ RepUL K G α xs us := by
  unfold sqU at e
  split at e
  · cases e
    cases r with
    | tup h r => exact ⟨_, _, rfl, .inr (ex_t ok.ex h), r.toU⟩
  · cases e
    cases r with
    | fl h r => exact ⟨_, _, rfl, .inl (ex_l ok.ex h), r.toU⟩
  · obtain ⟨a, xs, h1, h2, h3⟩ := lsU_at ok r e
    exact ⟨a, xs, h1, .inl (SqL.of h2), h3⟩
theorem RepUL.length {vs : List V} {us : List U} (r : RepUL K G α vs us) : vs.length = us.length := Paired.length r
theorem RepUL.append : ∀ {vs ws : List V} {us xs : List U}, RepUL K G α vs us → RepUL K G α ws xs → RepUL K G α (vs ++ ws) (us ++ xs)
  | _, _, _, _, .nil, s => s
  | _, _, _, _, .cons r t, s => .cons r (RepUL.append t s)
theorem RepUL.drop : ∀ {vs : List V} {ds : List U} (n : Nat), RepUL K G α vs ds → RepUL K G α (vs.drop n) (ds.drop n)
  | _, _, 0, r => r
  | _, _, _ + 1, .nil => .nil
  | _, _, n + 1, .cons _ t => RepUL.drop n t
theorem RepUL.take : ∀ {vs : List V} {ds : List U} (n : Nat), RepUL K G α vs ds → RepUL K G α (vs.take n) (ds.take n)
  | _, _, 0, _ => .nil
  | _, _, _ + 1, .nil => .nil
  | _, _, n + 1, .cons r t => .cons r (RepUL.take n t)
theorem RepUL.set {x : V} {u : U} (r : RepU K G α x u) : ∀ {xs : List V} {us : List U} (i : Nat), RepUL K G α xs us → RepUL K G α (xs.set i x) (us.set i u)
  | _, _, _, .nil => .nil
  | _, _, 0, .cons _ t => .cons r t
  | _, _, i + 1, .cons q t => .cons q (RepUL.set r i t)
theorem RepUL.get' : ∀ {vs : List V} {us : List U}, RepUL K G α vs us → ∀ (i : Nat) (v : V), vs[i]? = some v → ∃ u, us[i]? = some u ∧ RepU K G α v u
  | _, _, .nil, i, d, e => by simp at e
  | _, _, .cons h r, 0, d, e => by simp at e; subst e; exact ⟨_, rfl, h⟩
  | _, _, .cons h r, i + 1, d, e => by
    obtain ⟨v, e1, e2⟩ := RepUL.get' r i d (by simpa using e)
    exact ⟨v, by simpa using e1, e2⟩
variable {W : WX} {σ : St} {Q : VK} {p : Addr}
theorem new_lst {xs : List V} {ds : List D} (ok : Ok K G α H μ) (hr : RepL K G xs ds) (h : Pg (ρU K) K G α H σ (.ok (.d (.lst ds)) μ) Q W) (hp : H p = none) : Q (.ref p) (upd H p (.lst xs)) := by
  obtain ⟨a, b, c⟩ := ok.new (o := .lst xs) hp
  exact h _ _ _ _ a b (show Rep _ _ _ _ from .lst upd_same (hr.mono c))
theorem new_tup {xs : List V} {ds : List D} (ok : Ok K G α H μ) (hr : RepL K G xs ds) (h : Pg (ρU K) K G α H σ (.ok (.d (.tup ds)) μ) Q W) (hp : H p = none) : Q (.ref p) (upd H p (.tup xs)) := by
  obtain ⟨a, b, c⟩ := ok.new (o := .tup xs) hp
  exact h _ _ _ _ a b (show Rep _ _ _ _ from .tup (SqT.of upd_same) (hr.mono c))
theorem new_cell {xs : List V} {us : List U} (ok : Ok K G α H μ) (hr : RepUL K G α xs us) (h : Pg (ρU K) K G α H σ (.ok (.own μ.length) (μ ++ [.lst us])) Q W) (hp : H p = none) : Q (.ref p) (upd H p (.lst xs)) := by
  obtain ⟨a, b⟩ := ok.newCell (o := .lst xs) (c := .lst us) hp ⟨Evl.fresh_back ok.ex hp, xs, upd_same, hr.mono (Ex.refl G)⟩
  exact h _ _ _ _ a b ⟨p, by rw [List.getElem?_append_right (by rw [ok.len]; exact Nat.le_refl _), ok.len]; simp, rfl⟩
end
/-! ### sizes -/
def fits (n : Nat) : Bool := decide (n ≤ 16000000)
theorem fits_le {n : Nat} (h : fits n = true) : n ≤ sizeLine := Nat.le_trans (of_decide_eq_true h) (by rw [sizeLine_eq]; decide)
theorem fits_lt {n : Nat} (h : fits n = true) : n < sizeLine := Nat.lt_of_le_of_lt (of_decide_eq_true h) (by rw [sizeLine_eq]; decide)
theorem fits_of {n : Nat} (h : n ≤ 16000000) : fits n = true := decide_eq_true h
def guard {β : Type} (b : Bool) (r : Out β) : Out β := match b with
  | true => r
  | false => .stuck
@[simp] theorem guard_true {β : Type} (r : Out β) : guard true r = r := rfl
theorem Pg.guard {γ β : Type} {ρ : Hp → List Addr → γ → β → Prop} {K : PySem.W.Frag} {G H : Hp} {α : List Addr} {σ : St} {b : Bool} {r : Out β} {Q : γ → Hp → Prop} {W : WX} (h : Pg ρ K G α H σ (guard b r) Q W) : b = true ∧ Pg ρ K G α H σ r Q W := by
  cases b with
  | true => exact ⟨rfl, h⟩
  | false => exact h.elim
section
variable {X : Cx} {W : WX}
/-! ### + of texts, lists, tuples -/
def addS : U → U → Store → Out U
  | .d (.str x), .d (.str y), μ => guard (fits (x.length + y.length)) (.ok (.d (.str (x ++ y))) μ)
  | _, _, _ => .stuck
theorem ob_addS : OpB X W (binaryOp .Add) addS := by
  refine ⟨_, op_add_str, fun G α H σ μ x y ux uy Q ok rx ry hp => ?_⟩
  unfold addS at hp
  split at hp
  · cases rx
    cases ry
    obtain ⟨h1, h2⟩ := hp.guard
    exact ⟨_, _, rfl, rfl, fits_le h1, Pg.nowD ok .str h2⟩
  · exact hp.elim
def addL : U → U → Store → Out U := fun u w μ => match lsU μ u, lsU μ w with
  | some us, some ws => (match allD (us ++ ws) with
    | some ds => guard (fits (us.length + ws.length)) (.ok (.d (.lst ds)) μ)
    | none => .stuck)
  | _, _ => .stuck
theorem ob_addL : OpB X W (binaryOp .Add) addL := by
  refine ⟨_, op_cat, fun G α H σ μ x y ux uy Q ok rx ry hp => ?_⟩
  unfold addL at hp
  split at hp
  · rename_i us ws e1 e2
    split at hp
    · rename_i ds e3
      obtain ⟨h1, h2⟩ := hp.guard
      obtain ⟨a, xs, rfl, ha, ra⟩ := lsU_at ok rx e1
      obtain ⟨b, ys, rfl, hb, rb⟩ := lsU_at ok ry e2
      refine ⟨a, b, xs, ys, rfl, rfl, ha, hb, ?_, fun p hp => new_lst ok (allD_rep (ra.append rb) e3) h2 hp⟩
      rw [ra.length, rb.length]
      exact fits_le h1
    · exact hp.elim
  · exact hp.elim
abbrev addU : U → U → Store → Out U := orO (iiO tt2 fun i j => .int (i + j)) (orO addS addL)
theorem ob_add : OpB X W (binaryOp .Add) addU := (opB_I0 op_add fun _ _ _ => .int).or (ob_addS.or ob_addL)
@[simp] theorem addU_int (i j : Int) (μ : Store) : addU (.d (.int i)) (.d (.int j)) μ = .ok (.d (.int (i + j))) μ := rfl
theorem addU_str (x y : Str) (μ : Store) : addU (.d (.str x)) (.d (.str y)) μ = guard (fits (x.length + y.length)) (.ok (.d (.str (x ++ y))) μ) := by
  show orO addS addL _ _ μ = _
  unfold orO
  cases h : fits (x.length + y.length) <;> simp [addS, addL, lsU, h, guard]
theorem addU_lst (x y : List D) (μ : Store) : addU (.d (.lst x)) (.d (.lst y)) μ = guard (fits (x.length + y.length)) (.ok (.d (.lst (x ++ y))) μ) := by
  have e : addU (.d (.lst x)) (.d (.lst y)) μ = addL (.d (.lst x)) (.d (.lst y)) μ := rfl
  rw [e]
  simp only [addL, lsU_d, ← List.map_append, allD_map, List.length_map]
/-! ### displays, arguments -/
def aNil : DEnv → Store → Out (List U) := fun _ μ => .ok [] μ
def aCons (f : DEnv → Store → Out U) (g : DEnv → Store → Out (List U)) : DEnv → Store → Out (List U) := fun δ μ => (f δ μ).bind fun u μ1 => (g δ μ1).bind fun us μ2 => .ok (u :: us) μ2
theorem da_nil : DA X W [] aNil := ⟨tNil, pa_nil, fun G α H σ δ μ Q ok re h => Pg.now (ρ := ρL X.K) ok (show RepUL X.K G α [] [] from .nil) h⟩
theorem da_cons {e : Expr} {es : List Expr} {f : DEnv → Store → Out U} {g : DEnv → Store → Out (List U)} (ha : DE X W e f) (hr : DA X W es g) (hs : starEach (e :: es) X.env = (false, eval e X.env) :: starEach es X.env := by rfl) : DA X W (e :: es) (aCons f g) := by
  obtain ⟨ta, pa, ja⟩ := ha
  obtain ⟨tb, pb, jb⟩ := hr
  refine ⟨_, pa_cons pa pb hs, fun G α H σ δ μ Q ok re hp => ?_⟩
  refine ja G α H σ δ μ _ ok re (hp.bind fun u μ1 v G1 α1 H1 ok1 s1 r1 hp1 => ?_)
  refine jb G1 α1 H1 σ δ μ1 _ ok1 (re.step s1) (hp1.bind fun us μ2 vs G2 α2 H2 ok2 s2 r2 hp2 => ?_)
  exact Pg.now (ρ := ρL X.K) ok2 (show RepUL X.K G2 α2 (v :: vs) (u :: us) from .cons (s2.rep r1) r2) hp2
def eTup (g : DEnv → Store → Out (List U)) : DEnv → Store → Out U := fun δ μ => (g δ μ).bind fun us μ1 => match allD us with
  | some ds => guard (fits ds.length) (.ok (.d (.tup ds)) μ1)
  | none => .stuck
def eLst (g : DEnv → Store → Out (List U)) : DEnv → Store → Out U := fun δ μ => (g δ μ).bind fun us μ1 => match allD us with
  | some ds => guard (fits ds.length) (.ok (.d (.lst ds)) μ1)
  | none => .stuck
/-- a list that will be changed -/
def eLstC (g : DEnv → Store → Out (List U)) : DEnv → Store → Out U := fun δ μ => (g δ μ).bind fun us μ1 => guard (fits us.length) (.ok (.own μ1.length) (μ1 ++ [.lst us]))
theorem de_tup {es : List Expr} {g : DEnv → Store → Out (List U)} {x1} {pos : Pos} (h : DA X W es g) : DE X W (.Tuple es x1 pos) (eTup g) := by
  obtain ⟨ta, pa, ja⟩ := h
  refine ⟨_, pe_tup pa, fun G α H σ δ μ Q ok re hp => ?_⟩
  refine ja G α H σ δ μ _ ok re (hp.bind fun us μ1 vs G1 α1 H1 ok1 s1 r1 hp1 => ?_)
  split at hp1
  · rename_i ds e
    obtain ⟨h1, h2⟩ := hp1.guard
    have rl := allD_rep r1 e
    exact ⟨by rw [rl.length]; exact fits_le h1, fun p hp => new_tup ok1 rl h2 hp⟩
  · exact hp1.elim
theorem de_lst {es : List Expr} {g : DEnv → Store → Out (List U)} {pos : Pos} (h : DA X W es g) : DE X W (.List es pos) (eLst g) := by
  obtain ⟨ta, pa, ja⟩ := h
  refine ⟨_, pe_lst pa, fun G α H σ δ μ Q ok re hp => ?_⟩
  refine ja G α H σ δ μ _ ok re (hp.bind fun us μ1 vs G1 α1 H1 ok1 s1 r1 hp1 => ?_)
  split at hp1
  · rename_i ds e
    obtain ⟨h1, h2⟩ := hp1.guard
    have rl := allD_rep r1 e
    exact ⟨by rw [rl.length]; exact fits_le h1, fun p hp => new_lst ok1 rl h2 hp⟩
  · exact hp1.elim
theorem de_lstC {es : List Expr} {g : DEnv → Store → Out (List U)} {pos : Pos} (h : DA X W es g) : DE X W (.List es pos) (eLstC g) := by
  obtain ⟨ta, pa, ja⟩ := h
  refine ⟨_, pe_lst pa, fun G α H σ δ μ Q ok re hp => ?_⟩
  refine ja G α H σ δ μ _ ok re (hp.bind fun us μ1 vs G1 α1 H1 ok1 s1 r1 hp1 => ?_)
  obtain ⟨h1, h2⟩ := hp1.guard
  exact ⟨by rw [RepUL.length r1]; exact fits_le h1, fun p hp => new_cell ok1 r1 h2 hp⟩
/-! ### items -/
def ixU : U → U → Store → Out U := fun u w μ => match w with
  | .d (.int i) => (match u with
    | .d (.str z) => guard (fits z.length) (match atI z.cps.toList i with
      | some c => .ok (.d (.str ⟨#[c]⟩)) μ
      | none => .stuck)
    | u => match sqU μ u with
      | some us => (match atI us i with
        | some x => .ok x μ
        | none => .stuck)
      | none => .stuck)
  | _ => .stuck
theorem atI_rep {K : PySem.W.Frag} {G : Hp} {α : List Addr} {xs : List V} {us : List U} {i : Int} {u : U} (r : RepUL K G α xs us) (e : atI us i = some u) : ∃ v, atI xs i = some v ∧ RepU K G α v u := by
  unfold atI at e ⊢
  rw [r.length]
  cases q : ixN us.length i with
  | none =>
    rw [q] at e
    cases e
  | some j =>
    rw [q] at e
    exact RepUL.get r j u e
theorem de_ix {a b : Expr} {f g : DEnv → Store → Out U} {pos : Pos} (ha : DE X W a f) (hb : DE X W b g) (hs : PlainIx b) : DE X W (.Subscript a b pos) (eBin ixU f g) := by
  obtain ⟨ta, pa, ja⟩ := ha
  obtain ⟨tb, pb, jb⟩ := hb
  refine ⟨_, pe_ix ix_seq pa pb hs, jop (fun G α H σ μ x y ux uy Q ok rx ry hp => ?_) ja jb⟩
  unfold ixU at hp
  split at hp
  · rename_i i
    cases ry
    split at hp
    · obtain ⟨h1, hp⟩ := hp.guard
      cases rx
      split at hp
      · rename_i c e
        exact .inr (.inr ⟨_, _, c, rfl, rfl, fits_le h1, e, Pg.nowD ok .str hp⟩)
      · exact hp.elim
    · split at hp
      · rename_i us e
        obtain ⟨a, xs, rfl, ha, ra⟩ := sqU_at ok rx e
        split at hp
        · rename_i z ez
          obtain ⟨v, e1, r1⟩ := atI_rep ra ez
          rcases ha with ha | ha
          · exact .inl ⟨a, xs, i, v, rfl, rfl, ha, e1, Pg.now (ρ := ρU X.K) ok r1 hp⟩
          · exact .inr (.inl ⟨a, xs, i, v, rfl, rfl, ha, e1, Pg.now (ρ := ρU X.K) ok r1 hp⟩)
        · exact hp.elim
      · exact hp.elim
  · exact hp.elim
/-! ### tests -/
/-- an expression that gives a truth value, as a test -/
def tVal (f : DEnv → Store → Out U) : DEnv → Store → Out Bool := fun δ μ => (f δ μ).bind fun u μ1 => match u with
  | .d (.bl b) => .ok b μ1
  | _ => .stuck
theorem jval {ta : TE} {f : DEnv → Store → Out U} (ja : J (ρU X.K) X.K W ta f) : J ρB X.K W (fun σ H Q => ta σ H fun x H' => ∃ k, x = .bl k ∧ Q k H') (tVal f) := fun G α H σ δ μ Q ok re hp => by
  refine ja G α H σ δ μ _ ok re (hp.bind fun u μ1 v G1 α1 H1 ok1 s1 r1 hp1 => ?_)
  split at hp1
  · cases r1
    exact ⟨_, rfl, Pg.now (ρ := ρB) ok1 rfl hp1⟩
  · exact hp1.elim
theorem dt_val {e : Expr} {f : DEnv → Store → Out U} (h : DE X W e f) (he : ∀ whole, isTrue e X.env whole = (do let v ← whole; standAt e.pos; holding [v] (truthy v)) := by intro _; rfl) : DT X W e (tVal f) := by
  obtain ⟨ta, pa, ja⟩ := h
  exact ⟨_, pt_val pa he, jval ja⟩
theorem dt_cmp {op : CmpOp} {h : U → U → Store → Out U} {a b : Expr} {f g : DEnv → Store → Out U} {pos : Pos} (ho : OpB X W (compareOp op) h) (ha : DE X W a f) (hb : DE X W b g) (hm : behindInMarks op b = false) : DT X W (.Compare a [op] [b] pos) (tVal (eBin h f g)) := by
  obtain ⟨r, h1, h2⟩ := ho
  obtain ⟨ta, pa, ja⟩ := ha
  obtain ⟨tb, pb, jb⟩ := hb
  exact ⟨_, pt_cmpR h1 pa pb hm, jval (jop h2 ja jb)⟩
def tAndB (f g : DEnv → Store → Out Bool) : DEnv → Store → Out Bool := fun δ μ => (f δ μ).bind fun b μ1 => match b with
  | true => g δ μ1
  | false => .ok false μ1
def tOrB (f g : DEnv → Store → Out Bool) : DEnv → Store → Out Bool := fun δ μ => (f δ μ).bind fun b μ1 => match b with
  | true => .ok true μ1
  | false => g δ μ1
def tNotB (f : DEnv → Store → Out Bool) : DEnv → Store → Out Bool := fun δ μ => (f δ μ).bind fun b μ1 => .ok (!b) μ1
theorem dw_pt {e : Expr} {f : DEnv → Store → Out Bool} (h : DW X W e f) : DT X W e f := by
  obtain ⟨t, p, j⟩ := h
  exact ⟨t, p.pt, j⟩
theorem dw_and1 {a : Expr} {f : DEnv → Store → Out Bool} {pos : Pos} (h : DT X W a f) : DW X W (.BoolOp .And [a] pos) f := by
  obtain ⟨t, p, j⟩ := h
  exact ⟨t, pw_and1 p, j⟩
theorem dw_or1 {a : Expr} {f : DEnv → Store → Out Bool} {pos : Pos} (h : DT X W a f) : DW X W (.BoolOp .Or [a] pos) f := by
  obtain ⟨t, p, j⟩ := h
  exact ⟨t, pw_or1 p, j⟩
theorem dw_and {a b : Expr} {rest : List Expr} {f g : DEnv → Store → Out Bool} {pos : Pos} (ha : DT X W a f) (hb : DW X W (.BoolOp .And (b :: rest) pos) g) : DW X W (.BoolOp .And (a :: b :: rest) pos) (tAndB f g) := by
  obtain ⟨t, p, j⟩ := ha
  obtain ⟨t2, p2, j2⟩ := hb
  refine ⟨_, pw_and p p2, fun G α H σ δ μ Q ok re hp => ?_⟩
  refine j G α H σ δ μ _ ok re (hp.bind fun u μ1 v G1 α1 H1 ok1 s1 r1 hp1 => ?_)
  have e : v = u := r1
  subst e
  cases v with
  | true => exact j2 G1 α1 H1 σ δ μ1 Q ok1 (re.step s1) hp1
  | false => exact Pg.now (ρ := ρB) ok1 rfl hp1
theorem dw_or {a b : Expr} {rest : List Expr} {f g : DEnv → Store → Out Bool} {pos : Pos} (ha : DT X W a f) (hb : DW X W (.BoolOp .Or (b :: rest) pos) g) : DW X W (.BoolOp .Or (a :: b :: rest) pos) (tOrB f g) := by
  obtain ⟨t, p, j⟩ := ha
  obtain ⟨t2, p2, j2⟩ := hb
  refine ⟨_, pw_or p p2, fun G α H σ δ μ Q ok re hp => ?_⟩
  refine j G α H σ δ μ _ ok re (hp.bind fun u μ1 v G1 α1 H1 ok1 s1 r1 hp1 => ?_)
  have e : v = u := r1
  subst e
  cases v with
  | true => exact Pg.now (ρ := ρB) ok1 rfl hp1
  | false => exact j2 G1 α1 H1 σ δ μ1 Q ok1 (re.step s1) hp1
theorem dt_not {a : Expr} {f : DEnv → Store → Out Bool} {pos : Pos} (ha : DT X W a f) : DT X W (.UnaryOp .Not a pos) (tNotB f) := by
  obtain ⟨t, p, j⟩ := ha
  refine ⟨_, pt_not p, fun G α H σ δ μ Q ok re hp => ?_⟩
  refine j G α H σ δ μ _ ok re (hp.bind fun u μ1 v G1 α1 H1 ok1 s1 r1 hp1 => ?_)
  have e : v = u := r1
  subst e
  exact Pg.now (ρ := ρB) ok1 rfl hp1
/-! .. as values -/
def eAnd (f g : DEnv → Store → Out U) : DEnv → Store → Out U := fun δ μ => (f δ μ).bind fun u μ1 => match u with
  | .d (.bl true) => g δ μ1
  | .d (.bl false) => .ok (.d (.bl false)) μ1
  | _ => .stuck
def eOr (f g : DEnv → Store → Out U) : DEnv → Store → Out U := fun δ μ => (f δ μ).bind fun u μ1 => match u with
  | .d (.bl true) => .ok (.d (.bl true)) μ1
  | .d (.bl false) => g δ μ1
  | _ => .stuck
def eNot (f : DEnv → Store → Out U) : DEnv → Store → Out U := fun δ μ => (f δ μ).bind fun u μ1 => match u with
  | .d (.bl b) => .ok (.d (.bl (!b))) μ1
  | _ => .stuck
theorem de_one {op : BoolOp} {a : Expr} {f : DEnv → Store → Out U} {pos : Pos} (h : DE X W a f) : DE X W (.BoolOp op [a] pos) f := by
  obtain ⟨t, p, j⟩ := h
  exact ⟨t, pe_one p, j⟩
theorem de_and {a b : Expr} {rest : List Expr} {f g : DEnv → Store → Out U} {pos : Pos} (ha : DE X W a f) (hb : DE X W (.BoolOp .And (b :: rest) pos) g) : DE X W (.BoolOp .And (a :: b :: rest) pos) (eAnd f g) := by
  obtain ⟨t, p, j⟩ := ha
  obtain ⟨t2, p2, j2⟩ := hb
  refine ⟨_, pe_and p p2, fun G α H σ δ μ Q ok re hp => ?_⟩
  refine j G α H σ δ μ _ ok re (hp.bind fun u μ1 v G1 α1 H1 ok1 s1 r1 hp1 => ?_)
  split at hp1
  · cases r1
    exact ⟨true, rfl, iteT (j2 G1 α1 H1 σ δ μ1 Q ok1 (re.step s1) hp1)⟩
  · cases r1
    exact ⟨false, rfl, iteF (Pg.nowD ok1 .bl hp1)⟩
  · exact hp1.elim
theorem de_or {a b : Expr} {rest : List Expr} {f g : DEnv → Store → Out U} {pos : Pos} (ha : DE X W a f) (hb : DE X W (.BoolOp .Or (b :: rest) pos) g) : DE X W (.BoolOp .Or (a :: b :: rest) pos) (eOr f g) := by
  obtain ⟨t, p, j⟩ := ha
  obtain ⟨t2, p2, j2⟩ := hb
  refine ⟨_, pe_or p p2, fun G α H σ δ μ Q ok re hp => ?_⟩
  refine j G α H σ δ μ _ ok re (hp.bind fun u μ1 v G1 α1 H1 ok1 s1 r1 hp1 => ?_)
  split at hp1
  · cases r1
    exact ⟨true, rfl, iteT (Pg.nowD ok1 .bl hp1)⟩
  · cases r1
    exact ⟨false, rfl, iteF (j2 G1 α1 H1 σ δ μ1 Q ok1 (re.step s1) hp1)⟩
  · exact hp1.elim
theorem de_not {a : Expr} {f : DEnv → Store → Out U} {pos : Pos} (ha : DE X W a f) : DE X W (.UnaryOp .Not a pos) (eNot f) := by
  obtain ⟨t, p, j⟩ := ha
  refine ⟨_, pe_not p, fun G α H σ δ μ Q ok re hp => ?_⟩
  refine j G α H σ δ μ _ ok re (hp.bind fun u μ1 v G1 α1 H1 ok1 s1 r1 hp1 => ?_)
  split at hp1
  · cases r1
    exact ⟨_, rfl, Pg.nowD ok1 .bl hp1⟩
  · exact hp1.elim
def eIf (c : DEnv → Store → Out Bool) (f g : DEnv → Store → Out U) : DEnv → Store → Out U := fun δ μ => (c δ μ).bind fun b μ1 => match b with
  | true => f δ μ1
  | false => g δ μ1
theorem de_if {c a b : Expr} {h : DEnv → Store → Out Bool} {f g : DEnv → Store → Out U} {pos : Pos} (hc : DT X W c h) (ha : DE X W a f) (hb : DE X W b g) : DE X W (.IfExp c a b pos) (eIf h f g) := by
  obtain ⟨t, p, j⟩ := hc
  obtain ⟨t1, p1, j1⟩ := ha
  obtain ⟨t2, p2, j2⟩ := hb
  refine ⟨_, pe_ifExp p p1 p2, fun G α H σ δ μ Q ok re hp => ?_⟩
  refine j G α H σ δ μ _ ok re (hp.bind fun u μ1 v G1 α1 H1 ok1 s1 r1 hp1 => ?_)
  have e : v = u := r1
  subst e
  cases v with
  | true => exact iteT (j1 G1 α1 H1 σ δ μ1 Q ok1 (re.step s1) hp1)
  | false => exact iteF (j2 G1 α1 H1 σ δ μ1 Q ok1 (re.step s1) hp1)
end
end HB
end
section
set_option Elab.async false
set_option linter.all false
set_option maxRecDepth 100000
set_option maxHeartbeats 4000000
namespace HB
open PySem PySem.Spec L2
open PyProof.Rows hiding St
open Evl (Ex ex_t ex_l ex_rd)
/-! ### data as the library's data -/
mutual
def toPy : D → Option PyData
  | .non => some .none
  | .bl b => some (.bool b)
  | .int i => some (.int i)
  | .str x => some (.str x)
  | .tup ds => (toPyL ds).map .tuple
  | .lst ds => (toPyL ds).map .list
  | .fl _ => none
  | .ob _ _ _ => none
def toPyL : List D → Option (List PyData)
  | [] => some []
  | d :: r => match toPy d, toPyL r with
    | some p, some q => some (p :: q)
    | _, _ => none
end
section
variable {K : PySem.W.Frag} {G H : Hp} {α : List Addr} {μ : Store}
mutual
theorem Rep.dp (e : Ex G H) : ∀ {v : V} {d : D} {p : PyData}, Rep K G v d → toPy d = some p → Dp K H v p
  | _, _, _, .non, h => by simp only [toPy, Option.some.injEq] at h; subst h; exact .non
  | _, _, _, .bl, h => by simp only [toPy, Option.some.injEq] at h; subst h; exact .bl _
  | _, _, _, .int, h => by simp only [toPy, Option.some.injEq] at h; subst h; exact .int _
  | _, _, _, .str, h => by simp only [toPy, Option.some.injEq] at h; subst h; exact .str _
  | _, _, _, .tup k r, h => by
    simp only [toPy, Option.map_eq_some_iff] at h
    obtain ⟨q, h1, rfl⟩ := h
    exact .tup (ex_t e k) (RepL.dp e r h1)
  | _, _, _, .lst k r, h => by
    simp only [toPy, Option.map_eq_some_iff] at h
    obtain ⟨q, h1, rfl⟩ := h
    exact .lst (SqL.of (e _ _ k)) (RepL.dp e r h1)
  | _, _, _, .fl k r, h => by simp only [toPy] at h; cases h
  | _, _, _, .ob k l r, h => by simp only [toPy] at h; cases h
theorem RepL.dp (e : Ex G H) : ∀ {vs : List V} {ds : List D} {ps : List PyData}, RepL K G vs ds → toPyL ds = some ps → DpAll K H vs ps
  | _, _, _, .nil, h => by simp only [toPyL, Option.some.injEq] at h; subst h; exact .nil
  | _, _, _, .cons k r, h => by
    simp only [toPyL] at h
    split at h
    · rename_i p q h1 h2
      cases h
      exact .cons (Rep.dp e k h1) (RepL.dp e r h2)
    · cases h
end
theorem deepU_dp {v : V} {u : U} {d : D} {p : PyData} (ok : Ok K G α H μ) (r : RepU K G α v u) (e : deepU μ u = some d) (hp : toPy d = some p) : Dp K H v p := by
  cases u with
  | d x =>
    cases e
    exact Rep.dp ok.ex r hp
  | own n =>
    unfold deepU at e
    obtain ⟨a, h1, rfl⟩ := r
    dsimp only at e
    split at e
    · rename_i us q
      obtain ⟨_, xs, k2, k3⟩ := ok.cell n a _ h1 q
      simp only [Option.map_eq_some_iff] at e
      obtain ⟨ds, e1, rfl⟩ := e
      simp only [toPy, Option.map_eq_some_iff] at hp
      obtain ⟨ps, e2, rfl⟩ := hp
      exact .lst (SqL.of k2) (RepL.dp ok.ex (allD_rep k3 e1) e2)
    · cases e
  | exc a dd x => cases e
end
/-! ### ==, != -/
def scD : D → D → Bool
  | .non, .non => true | .non, .int _ => true | .int _, .non => true | .non, .bl _ => true | .bl _, .non => true | .non, .str _ => true | .str _, .non => true
  | .int _, .int _ => true | .bl _, .bl _ => true | .str _, .str _ => true
  | .int _, .str _ => true | .str _, .int _ => true | .bl _, .str _ => true | .str _, .bl _ => true
  | _, _ => false
def eqSc : D → D → Bool
  | .non, .non => true
  | .int i, .int j => decide (i = j)
  | .bl i, .bl j => decide (i = j)
  | .str i, .str j => decide (i = j)
  | _, _ => false
def neg (n b : Bool) : Bool := match n with
  | true => !b
  | false => b
@[simp] theorem neg_t (b : Bool) : neg true b = !b := rfl
@[simp] theorem neg_f (b : Bool) : neg false b = b := rfl
def eqS (n : Bool) : U → U → Store → Out U
  | .d a, .d b, μ => guard (scD a b) (.ok (.d (.bl (neg n (eqSc a b)))) μ)
  | _, _, _ => .stuck
def eqP (n : Bool) : U → U → Store → Out U := fun u w μ => match deepU μ u, deepU μ w with
  | some a, some b => (match toPy a, toPy b with
    | some p, some q => guard (SeqAt.shaped p && SeqAt.shaped q) (.ok (.d (.bl (neg n (PyData.eqv p q)))) μ)
    | _, _ => .stuck)
  | _, _ => .stuck
theorem sc_rep {K : PySem.W.Frag} {G : Hp} {x y : V} {a b : D} (rx : Rep K G x a) (ry : Rep K G y b) (h : scD a b = true) : scal x y = true ∧ decide (x = y) = eqSc a b := by
  cases rx <;> cases ry <;> first | (simp [scD] at h; done) | (simp [scal, eqSc, scD])
section
variable {X : Cx} {W : WX}
theorem ob_eqS : OpB X W (compareOp .Eq) (eqS false) := by
  refine ⟨_, op_eq, fun G α H σ μ x y ux uy Q ok rx ry hp => ?_⟩
  unfold eqS at hp
  split at hp
  · obtain ⟨h1, h2⟩ := hp.guard
    obtain ⟨h3, h4⟩ := sc_rep rx ry h1
    refine ⟨h3, ?_⟩
    rw [h4]
    exact Pg.nowD ok .bl h2
  · exact hp.elim
theorem ob_neS : OpB X W (compareOp .NotEq) (eqS true) := by
  refine ⟨_, op_ne, fun G α H σ μ x y ux uy Q ok rx ry hp => ?_⟩
  unfold eqS at hp
  split at hp
  · obtain ⟨h1, h2⟩ := hp.guard
    obtain ⟨h3, h4⟩ := sc_rep rx ry h1
    refine ⟨h3, ?_⟩
    rw [h4]
    exact Pg.nowD ok .bl h2
  · exact hp.elim
theorem ob_eqP (hu : X.A.units + 64 < cLine) : OpB X W (compareOp .Eq) (eqP false) := by
  refine ⟨_, op_eqD hu, fun G α H σ μ x y ux uy Q ok rx ry hp => ?_⟩
  unfold eqP at hp
  split at hp
  · rename_i a b e1 e2
    split at hp
    · rename_i p q e3 e4
      obtain ⟨h1, h2⟩ := hp.guard
      obtain ⟨h3, h4⟩ := Bool.and_eq_true_iff.mp h1
      exact ⟨p, q, deepU_dp ok rx e1 e3, deepU_dp ok ry e2 e4, h3, h4, Pg.nowD ok .bl h2⟩
    · exact hp.elim
  · exact hp.elim
theorem ob_neP (hu : X.A.units + 64 < cLine) : OpB X W (compareOp .NotEq) (eqP true) := by
  refine ⟨_, op_neD hu, fun G α H σ μ x y ux uy Q ok rx ry hp => ?_⟩
  unfold eqP at hp
  split at hp
  · rename_i a b e1 e2
    split at hp
    · rename_i p q e3 e4
      obtain ⟨h1, h2⟩ := hp.guard
      obtain ⟨h3, h4⟩ := Bool.and_eq_true_iff.mp h1
      exact ⟨p, q, deepU_dp ok rx e1 e3, deepU_dp ok ry e2 e4, h3, h4, Pg.nowD ok .bl h2⟩
    · exact hp.elim
  · exact hp.elim
abbrev eqU : U → U → Store → Out U := orO (eqS false) (eqP false)
abbrev neU : U → U → Store → Out U := orO (eqS true) (eqP true)
theorem ob_eq (hu : X.A.units + 64 < cLine) : OpB X W (compareOp .Eq) eqU := ob_eqS.or (ob_eqP hu)
theorem ob_ne (hu : X.A.units + 64 < cLine) : OpB X W (compareOp .NotEq) neU := ob_neS.or (ob_neP hu)
/-! ### is None -/
def isNon : D → Bool
  | .non => true
  | _ => false
def isNO (n : Bool) : U → U → Store → Out U
  | .d a, .d .non, μ => .ok (.d (.bl (neg n (isNon a)))) μ
  | .own _, .d .non, μ => .ok (.d (.bl (neg n false))) μ
  | _, _, _ => .stuck
theorem non_rep {K : PySem.W.Frag} {G : Hp} {x : V} {a : D} (r : Rep K G x a) : decide (x = V.non) = isNon a := by
  cases r <;> simp [isNon]
theorem ob_isN : OpB X W (compareOp .Is) (isNO false) := by
  refine ⟨_, op_isN, fun G α H σ μ x y ux uy Q ok rx ry hp => ?_⟩
  unfold isNO at hp
  split at hp
  · cases ry
    refine ⟨rfl, ?_⟩
    rw [non_rep rx]
    exact Pg.nowD ok .bl hp
  · cases ry
    obtain ⟨a, _, rfl⟩ := rx
    exact ⟨rfl, Pg.nowD ok .bl hp⟩
  · exact hp.elim
theorem ob_notN : OpB X W (compareOp .IsNot) (isNO true) := by
  refine ⟨_, op_notN, fun G α H σ μ x y ux uy Q ok rx ry hp => ?_⟩
  unfold isNO at hp
  split at hp
  · cases ry
    refine ⟨rfl, ?_⟩
    rw [non_rep rx]
    exact Pg.nowD ok .bl hp
  · cases ry
    obtain ⟨a, _, rfl⟩ := rx
    exact ⟨rfl, Pg.nowD ok .bl hp⟩
  · exact hp.elim
/-! ### in: flat things in a list or tuple; one sign in a text -/
def flatD : D → Bool
  | .non => true
  | .bl _ => true
  | .int _ => true
  | .str _ => true
  | _ => false
def eqF : D → D → Bool
  | .non, .non => true
  | .bl a, .bl b => a == b
  | .bl a, .int b => (if a then 1 else 0) == b
  | .int a, .bl b => a == (if b then 1 else 0)
  | .int a, .int b => a == b
  | .str a, .str b => a == b
  | _, _ => false
def inD (x : D) (ds : List D) : Bool := ds.any fun y => eqF y x
def inS (n : Bool) : U → U → Store → Out U := fun u w μ => match u with
  | .d x => (match sqU μ w with
    | some us => (match allD us with
      | some ds => guard (flatD x && ds.all flatD) (.ok (.d (.bl (neg n (inD x ds)))) μ)
      | none => .stuck)
    | none => .stuck)
  | _ => .stuck
theorem flat_rep {K : PySem.W.Frag} {G : Hp} {x : V} {a : D} (r : Rep K G x a) : flatV x = flatD a := by
  cases r <;> rfl
theorem flats_rep {K : PySem.W.Frag} {G : Hp} : ∀ {xs : List V} {ds : List D}, RepL K G xs ds → xs.all flatV = ds.all flatD
  | _, _, .nil => rfl
  | _, _, .cons h r => by simp only [List.all_cons, flat_rep h, flats_rep r]
theorem eqF_rep {K : PySem.W.Frag} {G : Hp} {x y : V} {a b : D} (rx : Rep K G x a) (ry : Rep K G y b) : eqV x y = eqF a b := by
  cases rx <;> cases ry <;> rfl
theorem in_rep {K : PySem.W.Frag} {G : Hp} {x : V} {a : D} (rx : Rep K G x a) : ∀ {xs : List V} {ds : List D}, RepL K G xs ds → inV x xs = inD a ds
  | _, _, .nil => rfl
  | _, _, .cons h r => by
    have ih := in_rep rx r
    unfold inV inD at ih ⊢
    simp only [List.any_cons, eqF_rep h rx, ih]
theorem inS_at {n : Bool} {G H : Hp} {α : List Addr} {σ : St} {μ : Store} {x y : V} {ux uy : U} {Q : VK} (ok : Ok X.K G α H μ) (rx : RepU X.K G α x ux) (ry : RepU X.K G α y uy) (hp : Pg (ρU X.K) X.K G α H σ (inS n ux uy μ) Q W) :
    ∃ p xs, y = .ref p ∧ (SqL X.K H p xs ∨ SqT X.K H p xs) ∧ flatV x = true ∧ xs.all flatV = true ∧ Q (.bl (neg n (inV x xs))) H := by
  unfold inS at hp
  split at hp
  · split at hp
    · rename_i us e
      split at hp
      · rename_i ds e2
        obtain ⟨h1, h2⟩ := hp.guard
        obtain ⟨h3, h4⟩ := Bool.and_eq_true_iff.mp h1
        obtain ⟨a, xs, rfl, ha, ra⟩ := sqU_at ok ry e
        have rl := allD_rep ra e2
        refine ⟨a, xs, rfl, ha, by rw [flat_rep rx]; exact h3, by rw [flats_rep rl]; exact h4, ?_⟩
        rw [in_rep rx rl]
        exact Pg.nowD ok .bl h2
      · exact hp.elim
    · exact hp.elim
  · exact hp.elim
theorem ob_inS : OpB X W (compareOp .In) (inS false) := by
  refine ⟨_, op_in_seq, fun G α H σ μ x y ux uy Q ok rx ry hp => ?_⟩
  obtain ⟨p, xs, h1, h2, h3, h4, h5⟩ := inS_at ok rx ry hp
  exact ⟨p, xs, h1, h2, h3, h4, h5⟩
theorem ob_ninS : OpB X W (compareOp .NotIn) (inS true) := by
  refine ⟨_, op_notIn_seq, fun G α H σ μ x y ux uy Q ok rx ry hp => ?_⟩
  obtain ⟨p, xs, h1, h2, h3, h4, h5⟩ := inS_at ok rx ry hp
  exact ⟨p, xs, h1, h2, h3, h4, h5⟩
def inC (n : Bool) : U → U → Store → Out U
  | .d (.str ⟨⟨[c]⟩⟩), .d (.str z), μ => .ok (.d (.bl (neg n (decide (c ∈ z.cps.toList))))) μ
  | _, _, _ => .stuck
theorem ob_inC : OpB X W (compareOp .In) (inC false) := by
  refine ⟨_, op_in_sign, fun G α H σ μ x y ux uy Q ok rx ry hp => ?_⟩
  unfold inC at hp
  split at hp
  · cases rx
    cases ry
    exact ⟨_, _, rfl, rfl, Pg.nowD ok .bl hp⟩
  · exact hp.elim
theorem ob_ninC : OpB X W (compareOp .NotIn) (inC true) := by
  refine ⟨_, op_notIn_sign, fun G α H σ μ x y ux uy Q ok rx ry hp => ?_⟩
  unfold inC at hp
  split at hp
  · cases rx
    cases ry
    exact ⟨_, _, rfl, rfl, Pg.nowD ok .bl hp⟩
  · exact hp.elim
abbrev inU : U → U → Store → Out U := orO (inS false) (inC false)
abbrev ninU : U → U → Store → Out U := orO (inS true) (inC true)
theorem ob_in : OpB X W (compareOp .In) inU := ob_inS.or ob_inC
theorem ob_nin : OpB X W (compareOp .NotIn) ninU := ob_ninS.or ob_ninC
/-! ### a <= b < c -/
def eChain (h h' : U → U → Store → Out U) (f g k : DEnv → Store → Out U) : DEnv → Store → Out U := fun δ μ => (f δ μ).bind fun u μ1 => (g δ μ1).bind fun w μ2 => (h u w μ2).bind fun z μ3 => match z with
  | .d (.bl true) => (k δ μ3).bind fun y μ4 => h' w y μ4
  | .d (.bl false) => .ok (.d (.bl false)) μ3
  | _ => .stuck
theorem de_chain {op op' : CmpOp} {h h' : U → U → Store → Out U} {a b c : Expr} {f g k : DEnv → Store → Out U} {pos : Pos} (ho : OpB X W (compareOp op) h) (ho' : OpB X W (compareOp op') h') (ha : DE X W a f) (hb : DE X W b g) (hc : DE X W c k)
    (hm : lastMarks [op, op'] [b, c] = false := by with_unfolding_all rfl) : DE X W (.Compare a [op, op'] [b, c] pos) (eChain h h' f g k) := by
  obtain ⟨r, h1, h2⟩ := ho
  obtain ⟨r', h1', h2'⟩ := ho'
  obtain ⟨ta, pa, ja⟩ := ha
  obtain ⟨tb, pb, jb⟩ := hb
  obtain ⟨tc, pc, jc⟩ := hc
  refine ⟨_, pe_chain h1 h1' pa pb pc hm, fun G α H σ δ μ Q ok re hp => ?_⟩
  refine ja G α H σ δ μ _ ok re (hp.bind fun u μ1 v G1 α1 H1 ok1 s1 r1 hp1 => ?_)
  refine jb G1 α1 H1 σ δ μ1 _ ok1 (re.step s1) (hp1.bind fun w μ2 v2 G2 α2 H2 ok2 s2 r2 hp2 => ?_)
  refine h2 G2 α2 H2 σ μ2 v v2 u w _ ok2 (s2.rep r1) r2 (hp2.bind fun z μ3 v3 G3 α3 H3 ok3 s3 r3 hp3 => ?_)
  split at hp3
  · cases r3
    refine ⟨true, rfl, iteT ?_⟩
    refine jc G3 α3 H3 σ δ μ3 _ ok3 (((re.step s1).step s2).step s3) (hp3.bind fun y μ4 v4 G4 α4 H4 ok4 s4 r4 hp4 => ?_)
    exact h2' G4 α4 H4 σ μ4 v2 v4 w y _ ok4 (s4.rep (s3.rep r2)) r4 hp4
  · cases r3
    exact ⟨false, rfl, iteF (Pg.nowD ok3 .bl hp3)⟩
  · exact hp3.elim
/-! ### built-in functions -/
def eCB (h : List U → Store → Out U) (g : DEnv → Store → Out (List U)) : DEnv → Store → Out U := fun δ μ => (g δ μ).bind h
def CallB (X : Cx) (W : WX) (f : Value) (h : List U → Store → Out U) : Prop :=
  ∃ r, CallR X f r ∧ ∀ G α H σ μ vs us Q, Ok X.K G α H μ → RepUL X.K G α vs us → Pg (ρU X.K) X.K G α H σ (h us μ) Q W → r vs H Q
theorem jcb {r : List V → Hp → VK → Prop} {h : List U → Store → Out U} {t : TA} {g : DEnv → Store → Out (List U)} (hd : ∀ G α H σ μ vs us Q, Ok X.K G α H μ → RepUL X.K G α vs us → Pg (ρU X.K) X.K G α H σ (h us μ) Q W → r vs H Q) (ja : J (ρL X.K) X.K W t g) : J (ρU X.K) X.K W (tCB r t) (eCB h g) :=
  fun G α H σ δ μ Q ok re hp => ja G α H σ δ μ _ ok re (hp.bind fun us μ1 vs G1 α1 H1 ok1 s1 r1 hp1 => hd G1 α1 H1 σ μ1 vs us Q ok1 r1 hp1)
theorem de_callB {h : List U → Store → Out U} {id : String} {x : Str} {e : Expr} {es : List Expr} {g : DEnv → Store → Out (List U)} {p pos : Pos} (hc : CallB X W (.builtin id) h) (hg : Gl X x) (hm : X.mg x = none) (hv : bootBuiltins x = some (.builtin id)) (ha : DA X W (e :: es) g)
    (hn : x ≠ "__name__" := by decide) (hdb : (x == ("__debug__" : Str)) = false := by decide) (he : starEach (e :: es) X.env = (false, eval e X.env) :: starEach es X.env := by rfl) (hpl : (backTo pos (starEach es X.env)).any (·.1) = false := by rfl) :
    DE X W (.Call (.Name x p) (e :: es) [] pos) (eCB h g) := by
  obtain ⟨r, h1, h2⟩ := hc
  obtain ⟨t, pa, ja⟩ := ha
  exact ⟨_, pe_callB h1 hg hm hv pa hn hdb he hpl, jcb h2 ja⟩
theorem de_callTy {h : List U → Store → Out U} {T : String} {x : Str} {e : Expr} {es : List Expr} {g : DEnv → Store → Out (List U)} {p pos : Pos} (hc : CallB X W (.type T) h) (hg : Gl X x) (hm : X.mg x = none) (hv : bootBuiltins x = some (.type T)) (ha : DA X W (e :: es) g)
    (hn : x ≠ "__name__" := by decide) (hdb : (x == ("__debug__" : Str)) = false := by decide) (he : starEach (e :: es) X.env = (false, eval e X.env) :: starEach es X.env := by rfl) (hpl : (backTo pos (starEach es X.env)).any (·.1) = false := by rfl) :
    DE X W (.Call (.Name x p) (e :: es) [] pos) (eCB h g) := by
  obtain ⟨r, h1, h2⟩ := hc
  obtain ⟨t, pa, ja⟩ := ha
  exact ⟨_, pe_callTy h1 hg hm hv pa hn hdb he hpl, jcb h2 ja⟩
theorem one_rep {K : PySem.W.Frag} {G : Hp} {α : List Addr} {vs : List V} {u : U} (r : RepUL K G α vs [u]) : ∃ v, vs = [v] ∧ RepU K G α v u := by
  cases r with
  | cons h t =>
    cases t
    exact ⟨_, rfl, h⟩
theorem two_rep {K : PySem.W.Frag} {G : Hp} {α : List Addr} {vs : List V} {u w : U} (r : RepUL K G α vs [u, w]) : ∃ v v', vs = [v, v'] ∧ RepU K G α v u ∧ RepU K G α v' w := by
  cases r with
  | cons h t =>
    obtain ⟨v', rfl, h'⟩ := one_rep t
    exact ⟨_, _, rfl, h, h'⟩
/-- len -/
def lenU : List U → Store → Out U
  | [.d (.str z)], μ => guard (fits z.length) (.ok (.d (.int z.length)) μ)
  | [u], μ => match sqU μ u with
    | some us => .ok (.d (.int us.length)) μ
    | none => .stuck
  | _, _ => .stuck
theorem cb_len : CallB X W (.builtin "len") lenU := by
  refine ⟨_, call_len_seq.or call_len_str, fun G α H σ μ vs us Q ok r hp => ?_⟩
  unfold lenU at hp
  split at hp
  · obtain ⟨v, rfl, r1⟩ := one_rep r
    obtain ⟨h1, hp⟩ := hp.guard
    cases r1
    exact .inr ⟨_, rfl, fits_le h1, Pg.nowD ok .int hp⟩
  · obtain ⟨v, rfl, r1⟩ := one_rep r
    split at hp
    · rename_i us e
      obtain ⟨a, xs, rfl, ha, ra⟩ := sqU_at ok r1 e
      refine .inl ⟨a, xs, rfl, ha, ?_⟩
      rw [ra.length]
      exact Pg.nowD ok .int hp
    · exact hp.elim
  · exact hp.elim
def absU : List U → Store → Out U
  | [.d (.int i)], μ => .ok (.d (.int (if i < 0 then -i else i))) μ
  | _, _ => .stuck
theorem cb_abs : CallB X W (.builtin "abs") absU := by
  refine ⟨_, call_abs, fun G α H σ μ vs us Q ok r hp => ?_⟩
  unfold absU at hp
  split at hp
  · obtain ⟨v, rfl, r1⟩ := one_rep r
    cases r1
    exact ⟨_, rfl, Pg.nowD ok .int hp⟩
  · exact hp.elim
def intU : List U → Store → Out U
  | [.d (.int i)], μ => .ok (.d (.int i)) μ
  | [.d (.bl b)], μ => .ok (.d (.int (if b then 1 else 0))) μ
  | _, _ => .stuck
theorem cb_int : CallB X W (.type "int") intU := by
  refine ⟨_, call_int1, fun G α H σ μ vs us Q ok r hp => ?_⟩
  unfold intU at hp
  split at hp
  · obtain ⟨v, rfl, r1⟩ := one_rep r
    cases r1
    exact .inl ⟨_, rfl, Pg.nowD ok .int hp⟩
  · obtain ⟨v, rfl, r1⟩ := one_rep r
    cases r1
    exact .inr ⟨_, rfl, Pg.nowD ok .int hp⟩
  · exact hp.elim
def strU : List U → Store → Out U
  | [.d (.int i)], μ => guard (decide (i.natAbs.log2 < 1920)) (.ok (.d (.str (toString i))) μ)
  | _, _ => .stuck
theorem cb_str : CallB X W (.type "str") strU := by
  refine ⟨_, call_str_int, fun G α H σ μ vs us Q ok r hp => ?_⟩
  unfold strU at hp
  split at hp
  · obtain ⟨v, rfl, r1⟩ := one_rep r
    obtain ⟨h1, hp⟩ := hp.guard
    cases r1
    exact ⟨_, rfl, of_decide_eq_true h1, Pg.nowD ok .str hp⟩
  · exact hp.elim
/-- list(x): new data; a new list that will be changed -/
def listU : List U → Store → Out U
  | [u], μ => match sqU μ u with
    | some us => (match allD us with
      | some ds => .ok (.d (.lst ds)) μ
      | none => .stuck)
    | none => .stuck
  | _, _ => .stuck
def listC : List U → Store → Out U
  | [u], μ => match sqU μ u with
    | some us => .ok (.own μ.length) (μ ++ [.lst us])
    | none => .stuck
  | _, _ => .stuck
theorem cb_list : CallB X W (.type "list") listU := by
  refine ⟨_, call_list_of, fun G α H σ μ vs us Q ok r hp => ?_⟩
  unfold listU at hp
  split at hp
  · obtain ⟨v, rfl, r1⟩ := one_rep r
    split at hp
    · rename_i us e
      split at hp
      · rename_i ds e2
        obtain ⟨a, xs, rfl, ha, ra⟩ := sqU_at ok r1 e
        exact ⟨a, xs, rfl, ha, fun p hn => new_lst ok (allD_rep ra e2) hp hn⟩
      · exact hp.elim
    · exact hp.elim
  · exact hp.elim
theorem cb_listC : CallB X W (.type "list") listC := by
  refine ⟨_, call_list_of, fun G α H σ μ vs us Q ok r hp => ?_⟩
  unfold listC at hp
  split at hp
  · obtain ⟨v, rfl, r1⟩ := one_rep r
    split at hp
    · rename_i us e
      obtain ⟨a, xs, rfl, ha, ra⟩ := sqU_at ok r1 e
      exact ⟨a, xs, rfl, ha, fun p hn => new_cell ok ra hp hn⟩
    · exact hp.elim
  · exact hp.elim
def tupleU : List U → Store → Out U
  | [.d (.tup ds)], μ => .ok (.d (.tup ds)) μ
  | [u], μ => match lsU μ u with
    | some us => (match allD us with
      | some ds => .ok (.d (.tup ds)) μ
      | none => .stuck)
    | none => .stuck
  | _, _ => .stuck
theorem cb_tuple : CallB X W (.type "tuple") tupleU := by
  refine ⟨_, call_tuple_of, fun G α H σ μ vs us Q ok r hp => ?_⟩
  unfold tupleU at hp
  split at hp
  · obtain ⟨v, rfl, r1⟩ := one_rep r
    have r0 : RepU X.K G α v (.d (.tup _)) := r1
    cases r1 with
    | tup h r => exact ⟨_, _, rfl, .inr ⟨ex_t ok.ex h, Pg.now (ρ := ρU X.K) ok r0 hp⟩⟩
  · obtain ⟨v, rfl, r1⟩ := one_rep r
    split at hp
    · rename_i us e
      split at hp
      · rename_i ds e2
        obtain ⟨a, xs, rfl, ha, ra⟩ := lsU_at ok r1 e
        exact ⟨a, xs, rfl, .inl ⟨SqL.of ha, fun p hn => new_tup ok (allD_rep ra e2) hp hn⟩⟩
      · exact hp.elim
    · exact hp.elim
  · exact hp.elim
end
end HB
end
section
set_option Elab.async false
set_option linter.all false
set_option maxRecDepth 100000
set_option maxHeartbeats 4000000
namespace HB
open PySem PySem.Spec L2
open PyProof.Rows hiding St
open Evl (Ex ex_t ex_l ex_rd)
/-! ### statements -/
def sSeq (f g : DEnv → Store → OutS) : DEnv → Store → OutS := fun δ μ => match f δ μ with
  | .nx δ' μ' => g δ' μ'
  | r => r
def sNext : DEnv → Store → OutS := fun δ μ => .nx δ μ
def sBreak : DEnv → Store → OutS := fun δ μ => .brk δ μ
def sCont : DEnv → Store → OutS := fun δ μ => .cnt δ μ
/-- an expression, then its value is used -/
def sBind {β : Type} (f : DEnv → Store → Out β) (k : β → DEnv → Store → OutS) : DEnv → Store → OutS := fun δ μ => match f δ μ with
  | .ok b μ' => k b δ μ'
  | .err x μ' => .err x δ μ'
  | .stuck => .stuck
section
variable {X : Cx} {W : WX}
theorem PgS.bind {γ β : Type} {ρ : Hp → List Addr → γ → β → Prop} {K : PySem.W.Frag} {G : Hp} {α : List Addr} {H : Hp} {σ : St} {δ : DEnv} {μ : Store} {f : DEnv → Store → Out β} {k : β → DEnv → Store → OutS} {N : Ends} {R : γ → Hp → Prop} (re : RepE K G α σ δ) (h : PgS K G α H (sBind f k δ μ) N W)
    (hk : ∀ b μ1 v G1 α1 H1, Ok K G1 α1 H1 μ1 → Stp G α H G1 α1 H1 → ρ G1 α1 v b → PgS K G1 α1 H1 (k b δ μ1) N W → R v H1) : Pg ρ K G α H σ (f δ μ) R W := by
  unfold sBind at h
  cases e : f δ μ with
  | ok b μ' =>
    rw [e] at h
    exact fun v G' α' H' ok st rv => hk b μ' v G' α' H' ok st rv (PgS.step st h)
  | err x μ' =>
    rw [e] at h
    exact fun dd G' α' H' ok st xr => h dd σ G' α' H' ok st (re.step st) xr
  | stuck =>
    rw [e] at h
    exact h
theorem PgS.now {K : PySem.W.Frag} {G : Hp} {α : List Addr} {H : Hp} {σ : St} {δ : DEnv} {μ : Store} {N : Ends} (ok : Ok K G α H μ) (re : RepE K G α σ δ) (h : PgS K G α H (.nx δ μ) N W) : N.nx σ H := h σ G α H ok (Stp.refl G α H) re
theorem dss_nil : DSs X W [] sNext := ⟨tNext, pss_nil, fun G α H σ δ μ N ok re h => PgS.now ok re h⟩
theorem jseq {t u : TS} {f g : DEnv → Store → OutS} (ha : JS X.K W t f) (hb : JS X.K W u g) : JS X.K W (tSeq t u) (sSeq f g) := fun G α H σ δ μ N ok re h => by
  refine ha G α H σ δ μ { N with nx := u N } ok re ?_
  unfold sSeq at h
  cases e : f δ μ with
  | nx δ' μ' =>
    rw [e] at h
    exact fun σ' G' α' H' ok' st re' => hb G' α' H' σ' δ' μ' N ok' re' (PgS.step st h)
  | ret u μ' =>
    rw [e] at h
    exact h
  | brk δ' μ' =>
    rw [e] at h
    exact h
  | cnt δ' μ' =>
    rw [e] at h
    exact h
  | err x δ' μ' =>
    rw [e] at h
    exact h
  | stuck =>
    rw [e] at h
    exact h
theorem dss_cons {s : Stmt} {r : List Stmt} {f g : DEnv → Store → OutS} (ha : DS X W s f) (hb : DSs X W r g) : DSs X W (s :: r) (sSeq f g) := by
  obtain ⟨t, p, j⟩ := ha
  obtain ⟨t2, p2, j2⟩ := hb
  exact ⟨_, pss_cons p p2, jseq j j2⟩
theorem dss_one {s : Stmt} {f : DEnv → Store → OutS} (ha : DS X W s f) : DSs X W [s] f := by
  obtain ⟨t, p, j⟩ := ha
  exact ⟨_, pss_one p, j⟩
theorem ds_pass {pos} : DS X W (.Pass pos) sNext := ⟨_, ps_pass, fun G α H σ δ μ N ok re h => PgS.now ok re h⟩
theorem ds_break {pos} : DS X W (.Break pos) sBreak := ⟨_, ps_break, fun G α H σ δ μ N ok re h => h σ G α H ok (Stp.refl G α H) re⟩
theorem ds_continue {pos} : DS X W (.Continue pos) sCont := ⟨_, ps_continue, fun G α H σ δ μ N ok re h => h σ G α H ok (Stp.refl G α H) re⟩
def sDrop (f : DEnv → Store → Out U) : DEnv → Store → OutS := sBind f fun _ δ μ => .nx δ μ
def sRet (f : DEnv → Store → Out U) : DEnv → Store → OutS := sBind f fun u _ μ => .ret u μ
def sRetN : DEnv → Store → OutS := fun _ μ => .ret (.d .non) μ
def sSet (i : Nat) (f : DEnv → Store → Out U) : DEnv → Store → OutS := sBind f fun u δ μ => .nx (δ.set i (some u)) μ
def sIf (c : DEnv → Store → Out Bool) (f g : DEnv → Store → OutS) : DEnv → Store → OutS := sBind c fun b δ μ => match b with
  | true => f δ μ
  | false => g δ μ
theorem ds_expr {e : Expr} {f : DEnv → Store → Out U} {pos : Pos} (he : DE X W e f) (hs : swapsWith e none pos.line X.env = pure false := by rfl) : DS X W (.Expr e pos) (sDrop f) := by
  obtain ⟨t, p, j⟩ := he
  refine ⟨_, ps_expr p hs, fun G α H σ δ μ N ok re h => ?_⟩
  exact j G α H σ δ μ _ ok re (PgS.bind re h fun u μ1 v G1 α1 H1 ok1 s1 r1 h1 => PgS.now ok1 (re.step s1) h1)
theorem ds_ret {e : Expr} {f : DEnv → Store → Out U} {pos : Pos} (he : DE X W e f) : DS X W (.Return (some e) pos) (sRet f) := by
  obtain ⟨t, p, j⟩ := he
  refine ⟨_, ps_ret p, fun G α H σ δ μ N ok re h => ?_⟩
  exact j G α H σ δ μ _ ok re (PgS.bind re h fun u μ1 v G1 α1 H1 ok1 s1 r1 h1 => h1 v G1 α1 H1 ok1 (Stp.refl _ _ _) r1)
theorem ds_retN {pos : Pos} : DS X W (.Return none pos) sRetN := ⟨_, ps_retN, fun G α H σ δ μ N ok re h => h .non G α H ok (Stp.refl _ _ _) .non⟩
/-! ### targets -/
def JG (K : PySem.W.Frag) (t : TG) (g : U → DEnv → Option DEnv) : Prop := ∀ G α H σ δ δ' μ v u Q, Ok K G α H μ → RepE K G α σ δ → RepU K G α v u → g u δ = some δ' → (∀ σ', RepE K G α σ' δ' → Q σ' H) → t v σ H Q
def DG (X : Cx) (tg : Expr) (g : U → DEnv → Option DEnv) : Prop := ∃ t, PG X tg t ∧ JG X.K t g
def gN (i : Nat) : U → DEnv → Option DEnv := fun u δ => some (δ.set i (some u))
theorem dg_name {i : Nat} {x : Str} {pos : Pos} (hN : X.N.Nodup) (hi : X.N[i]? = some x) (hx : Loc X.env.scope x) (hf : X.fn x = true ∨ X.env.scope.names.lookup x = some .local := by first | exact .inl rfl | exact .inr rfl | assumption) : DG X (.Name x pos) (gN i) :=
  ⟨gName i, pg_name hN hi hx hf, fun G α H σ δ δ' μ v u Q ok re r e q => by
    cases e
    exact q _ (re.set i r)⟩
def JGs (K : PySem.W.Frag) (t : TGs) (g : List U → DEnv → Option DEnv) : Prop := ∀ G α H σ δ δ' μ vs us Q, Ok K G α H μ → RepE K G α σ δ → RepUL K G α vs us → g us δ = some δ' → (∀ σ', RepE K G α σ' δ' → Q σ' H) → t vs σ H Q
def DGs (X : Cx) (tgs : List Expr) (g : List U → DEnv → Option DEnv) : Prop := ∃ t, PGs X tgs t ∧ JGs X.K t g
def gNilU : List U → DEnv → Option DEnv
  | [], δ => some δ
  | _, _ => none
def gConsU (g : U → DEnv → Option DEnv) (h : List U → DEnv → Option DEnv) : List U → DEnv → Option DEnv
  | u :: us, δ => (g u δ).bind (h us)
  | [], _ => none
theorem dgs_nil : DGs X [] gNilU := ⟨_, pgs_nil, fun G α H σ δ δ' μ vs us Q ok re r e => by
  cases us with
  | nil =>
    cases e
    cases r
    exact fun q => ⟨rfl, q σ re⟩
  | cons u us => cases e⟩
theorem dgs_cons {e : Expr} {es : List Expr} {g : U → DEnv → Option DEnv} {h : List U → DEnv → Option DEnv} (h1 : DG X e g) (h2 : DGs X es h) (hs : (assignEach (e :: es) X.env).map (·.2) = assign e X.env :: (assignEach es X.env).map (·.2) := by rfl) : DGs X (e :: es) (gConsU g h) := by
  obtain ⟨t, p, j⟩ := h1
  obtain ⟨t2, p2, j2⟩ := h2
  refine ⟨_, pgs_cons p p2 hs, fun G α H σ δ δ' μ vs us Q ok re r eq q => ?_⟩
  cases us with
  | nil => cases eq
  | cons u us =>
    cases r with
    | cons ru rs =>
      simp only [gConsU, Option.bind_eq_some_iff] at eq
      obtain ⟨δ1, e1, e2⟩ := eq
      refine ⟨_, _, rfl, j G α H σ δ δ1 μ _ u _ ok re ru e1 fun σ1 re1 => ?_⟩
      exact j2 G α H σ1 δ1 δ' μ _ us Q ok re1 rs e2 q
def gTupU (n : Nat) (g : List U → DEnv → Option DEnv) : U → DEnv → Option DEnv
  | .d (.tup ds), δ => if ds.length = n then g (ds.map U.d) δ else none
  | .d (.lst ds), δ => if ds.length = n then g (ds.map U.d) δ else none
  | _, _ => none
theorem dg_tup {es : List Expr} {k : Nat} {g : List U → DEnv → Option DEnv} {n : Nat} {pos : Pos} (hc : X.calm = true) (h : DGs X es g) (hn : (assignEach es X.env).length = n := by rfl) (hst : (assignEach es X.env).findIdx? (·.1) = none := by rfl) : DG X (.Tuple es k pos) (gTupU n g) := by
  obtain ⟨t, p, j⟩ := h
  have p1 := pg_tup (k := k) (pos := pos) hc p hn hst
  have p2 := pg_lst (k := k) (pos := pos) hc p hn hst
  refine ⟨fun v σ H Q => gTup X.K n t v σ H Q ∨ gLst X.K n t v σ H Q, ⟨fun pins s σ H v u Q I r hw => ?_⟩, fun G α H σ δ δ' μ v u Q ok re r e q => ?_⟩
  · rcases hw with hw | hw
    · exact p1.run pins s σ H v u Q I r hw
    · exact p2.run pins s σ H v u Q I r hw
  · unfold gTupU at e
    split at e
    · split at e
      · rename_i hl
        cases r with
        | tup h r => exact .inl ⟨_, _, rfl, ex_t ok.ex h, by rw [r.length]; exact hl, j G α H σ δ δ' μ _ _ Q ok re r.toU e q⟩
      · cases e
    · split at e
      · rename_i hl
        cases r with
        | lst h r => exact .inr ⟨_, _, rfl, SqL.of (ok.ex _ _ h), by rw [r.length]; exact hl, j G α H σ δ δ' μ _ _ Q ok re r.toU e q⟩
      · cases e
    · cases e
/-! ### assignments -/
theorem ds_set {i : Nat} {x : Str} {e : Expr} {f : DEnv → Store → Out U} {pos' pos : Pos} (hN : X.N.Nodup) (hi : X.N[i]? = some x) (hx : Loc X.env.scope x) (he : DE X W e f) (hs : swapsWith e (some (.Name x pos')) pos.line X.env = pure false := by rfl) (hf : X.fn x = true ∨ X.env.scope.names.lookup x = some .local := by first | exact .inl rfl | exact .inr rfl | assumption) :
    DS X W (.Assign [.Name x pos'] e pos) (sSet i f) := by
  obtain ⟨t, p, j⟩ := he
  refine ⟨_, ps_set hN hi hx p hs hf, fun G α H σ δ μ N ok re h => ?_⟩
  exact j G α H σ δ μ _ ok re (PgS.bind re h fun u μ1 v G1 α1 H1 ok1 s1 r1 h1 => h1 _ G1 α1 H1 ok1 (Stp.refl _ _ _) ((re.step s1).set i r1))
def sAsg (g : U → DEnv → Option DEnv) (f : DEnv → Store → Out U) : DEnv → Store → OutS := sBind f fun u δ μ => match g u δ with
  | some δ' => .nx δ' μ
  | none => .stuck
theorem ds_asg {tg e : Expr} {f : DEnv → Store → Out U} {g : U → DEnv → Option DEnv} {pos : Pos} (he : DE X W e f) (hg : DG X tg g) (hs : swapsWithSole [tg] e pos.line X.env = pure false := by rfl) (hw : swappedStores [tg] e X.env = pure none := by rfl) (h1 : List.map (fun x => x.snd) (assignEach [tg] X.env) = [assign tg X.env] := by rfl) : DS X W (.Assign [tg] e pos) (sAsg g f) := by
  obtain ⟨t, p, j⟩ := he
  obtain ⟨t2, p2, j2⟩ := hg
  refine ⟨_, ps_asg p p2 hs hw h1, fun G α H σ δ μ N ok re h => ?_⟩
  refine j G α H σ δ μ _ ok re (PgS.bind re h fun u μ1 v G1 α1 H1 ok1 s1 r1 h1 => ?_)
  split at h1
  · rename_i δ' e
    exact j2 G1 α1 H1 σ δ δ' μ1 v u _ ok1 (re.step s1) r1 e fun σ' re' => PgS.now ok1 re' h1
  · exact h1.elim
theorem ds_if {c : Expr} {a b : List Stmt} {h : DEnv → Store → Out Bool} {f g : DEnv → Store → OutS} {pos : Pos} (hc : DT X W c h) (ha : DSs X W a f) (hb : DSs X W b g) : DS X W (.If c a b pos) (sIf h f g) := by
  obtain ⟨t, p, j⟩ := hc
  obtain ⟨t1, p1, j1⟩ := ha
  obtain ⟨t2, p2, j2⟩ := hb
  refine ⟨_, ps_if p p1 p2, fun G α H σ δ μ N ok re hp => ?_⟩
  refine j G α H σ δ μ _ ok re (PgS.bind re hp fun u μ1 v G1 α1 H1 ok1 s1 r1 hp1 => ?_)
  have e : v = u := r1
  subst e
  cases v with
  | true => exact iteT (j1 G1 α1 H1 σ δ μ1 N ok1 (re.step s1) hp1)
  | false => exact iteF (j2 G1 α1 H1 σ δ μ1 N ok1 (re.step s1) hp1)
/-! ### loops -/
/-- over things that stand still -/
def forL (g : U → DEnv → Option DEnv) (body : DEnv → Store → OutS) : List U → DEnv → Store → OutS
  | [], δ, μ => .nx δ μ
  | u :: r, δ, μ => match g u δ with
    | none => .stuck
    | some δ1 => match body δ1 μ with
      | .nx δ2 μ2 => forL g body r δ2 μ2
      | .cnt δ2 μ2 => forL g body r δ2 μ2
      | .brk δ2 μ2 => .nx δ2 μ2
      | .ret w μ2 => .ret w μ2
      | .err x δ2 μ2 => .err x δ2 μ2
      | .stuck => .stuck
/-- one turn: what the body is to reach -/
theorem forL_turn {K : PySem.W.Frag} {G G1 : Hp} {α α1 : List Addr} {H H1 : Hp} {σ : St} {δ : DEnv} {μ : Store} {g : U → DEnv → Option DEnv} {body : DEnv → Store → OutS} {u : U} {r : List U} {N : Ends} {tg : TG} {tb : TS} {v : V} {Pn : St → Hp → Prop}
    (ok : Ok K G1 α1 H1 μ) (st : Stp G α H G1 α1 H1) (re : RepE K G1 α1 σ δ) (rv : RepU K G1 α1 v u) (jg : JG K tg g) (jb : JS K W tb body) (hp : PgS K G α H (forL g body (u :: r) δ μ) N W)
    (hn : ∀ δ2 μ2 σ2 G2 α2 H2, Ok K G2 α2 H2 μ2 → Stp G α H G2 α2 H2 → RepE K G2 α2 σ2 δ2 → PgS K G α H (forL g body r δ2 μ2) N W → Pn σ2 H2) :
    tg v σ H1 fun σ2 H2 => tb { N with nx := Pn, ct := Pn, bk := N.nx } σ2 H2 := by
  unfold forL at hp
  split at hp
  · exact hp.elim
  · rename_i δ1 e
    refine jg G1 α1 H1 σ δ δ1 μ v u _ ok re rv e fun σ' re' => jb G1 α1 H1 σ' δ1 μ _ ok re' ?_
    cases eb : body δ1 μ with
    | nx δ2 μ2 =>
      rw [eb] at hp
      exact fun σ2 G2 α2 H2 ok2 s2 re2 => hn δ2 μ2 σ2 G2 α2 H2 ok2 (st.trans s2) re2 hp
    | cnt δ2 μ2 =>
      rw [eb] at hp
      exact fun σ2 G2 α2 H2 ok2 s2 re2 => hn δ2 μ2 σ2 G2 α2 H2 ok2 (st.trans s2) re2 hp
    | brk δ2 μ2 =>
      rw [eb] at hp
      exact fun σ2 G2 α2 H2 ok2 s2 re2 => hp σ2 G2 α2 H2 ok2 (st.trans s2) re2
    | ret w μ2 =>
      rw [eb] at hp
      exact fun v2 G2 α2 H2 ok2 s2 r2 => hp v2 G2 α2 H2 ok2 (st.trans s2) r2
    | err x δ2 μ2 =>
      rw [eb] at hp
      exact fun dd σ2 G2 α2 H2 ok2 s2 re2 xr => hp dd σ2 G2 α2 H2 ok2 (st.trans s2) re2 xr
    | stuck =>
      rw [eb] at hp
      exact hp.elim
/-- the invariant of such a loop, behind i turns -/
def LInv (K : PySem.W.Frag) (W : WX) (G : Hp) (α : List Addr) (H : Hp) (N : Ends) (g : U → DEnv → Option DEnv) (body : DEnv → Store → OutS) (us : List U) (i : Nat) (σ : St) (H' : Hp) : Prop :=
  ∃ G' α' δ μ, Ok K G' α' H' μ ∧ Stp G α H G' α' H' ∧ RepE K G' α' σ δ ∧ PgS K G α H (forL g body (us.drop i) δ μ) N W
theorem drop_at {β : Type} : ∀ {l : List β} {i : Nat} {x : β}, l[i]? = some x → l.drop i = x :: l.drop (i + 1)
  | [], i, x, h => by simp at h
  | a :: l, 0, x, h => by simp at h; subst h; rfl
  | a :: l, i + 1, x, h => by
    have := drop_at (l := l) (i := i) (x := x) (by simpa using h)
    simpa using this
theorem LInv.done {K : PySem.W.Frag} {G : Hp} {α : List Addr} {H H1 : Hp} {σ : St} {g : U → DEnv → Option DEnv} {body : DEnv → Store → OutS} {us : List U} {N : Ends} (h : LInv K W G α H N g body us us.length σ H1) : N.nx σ H1 := by
  obtain ⟨G1, α1, δ, μ, ok, st, re, hp⟩ := h
  rw [List.drop_length] at hp
  exact hp σ G1 α1 H1 ok st re
/-- what is walked: the items us, whatever is made or changed meanwhile -/
def Wk (K : PySem.W.Frag) (G : Hp) (α : List Addr) (J : It) (us : List U) : Prop := ∀ G1 α1 H1 μ1 i, Ok K G1 α1 H1 μ1 → Ex G G1 → (∃ β, α1 = α ++ β) →
  (∀ u, us[i]? = some u → J.go i H1 ∧ ∀ x H', J.yld i H1 x H' → ∃ G2, Ok K G2 α1 H' μ1 ∧ Stp G1 α1 H1 G2 α1 H' ∧ RepU K G2 α1 x u) ∧ (us.length ≤ i → J.stop i H1)
theorem for_wk {K : PySem.W.Frag} {G : Hp} {α : List Addr} {H : Hp} {σ : St} {δ : DEnv} {μ : Store} {g : U → DEnv → Option DEnv} {body : DEnv → Store → OutS} {us : List U} {N : Ends} {tg : TG} {tb : TS} {J : It} (jg : JG K tg g) (jb : JS K W tb body) (wk : Wk K G α J us) (ok : Ok K G α H μ) (re : RepE K G α σ δ)
    (hp : PgS K G α H (forL g body us δ μ) N W) : ∃ Wd : Nat → Nat → St → Hp → Prop, (∃ m, Wd 0 m σ H) ∧ ∀ i m σ H, Wd i m σ H →
      (J.stop i H ∧ N.nx σ H) ∨ (J.go i H ∧ ∃ Nn : St → Hp → Prop, (∀ σ' H', Nn σ' H' → ∃ m', m' < m ∧ Wd (i + 1) m' σ' H') ∧ ∀ x H', J.yld i H x H' → tg x σ H' fun σ2 H2 => tb { N with nx := Nn, ct := Nn, bk := N.nx } σ2 H2) := by
  refine ⟨fun i m σ' H' => m = us.length - i ∧ i ≤ us.length ∧ LInv K W G α H N g body us i σ' H', ⟨us.length, by simp, Nat.zero_le _, G, α, δ, μ, ok, Stp.refl _ _ _, re, hp⟩, ?_⟩
  rintro i m σ' H' ⟨rfl, hi, li⟩
  by_cases hlt : i < us.length
  · have hu : us[i]? = some us[i] := List.getElem?_eq_getElem hlt
    obtain ⟨G1, α1, δ1, μ1, ok1, st1, re1, hp1⟩ := li
    obtain ⟨w1, _⟩ := wk G1 α1 H' μ1 i ok1 st1.g st1.a
    obtain ⟨w2, w3⟩ := w1 _ hu
    refine .inr ⟨w2, LInv K W G α H N g body us (i + 1), fun σ2 H2 p2 => ⟨us.length - (i + 1), by omega, rfl, hlt, p2⟩, fun x H2 y => ?_⟩
    obtain ⟨G2, ok2, st2, rv⟩ := w3 x H2 y
    rw [drop_at hu] at hp1
    exact forL_turn ok2 (st1.trans st2) (re1.step st2) rv jg jb hp1 fun δ2 μ2 σ2 G3 α3 H3 ok3 s3 re3 hp3 => ⟨G3, α3, δ2, μ2, ok3, s3, re3, hp3⟩
  · have e : i = us.length := by omega
    subst e
    have d := li.done
    obtain ⟨G1, α1, δ1, μ1, ok1, st1, re1, hp1⟩ := li
    exact .inl ⟨(wk G1 α1 H' μ1 us.length ok1 st1.g st1.a).2 (Nat.le_refl _), d⟩
abbrev ρI (K : PySem.W.Frag) : Hp → List Addr → It → List U → Prop := fun G α J us => Wk K G α J us
def DI (X : Cx) (W : WX) (tg iter : Expr) (f : DEnv → Store → Out (List U)) : Prop := ∃ wi : TI, PI X tg iter wi ∧ J (ρI X.K) X.K W wi f
def sFor (g : U → DEnv → Option DEnv) (f : DEnv → Store → Out (List U)) (body : DEnv → Store → OutS) : DEnv → Store → OutS := sBind f fun us δ μ => forL g body us δ μ
theorem ds_for {tg iter : Expr} {body : List Stmt} {f : DEnv → Store → Out (List U)} {g : U → DEnv → Option DEnv} {b : DEnv → Store → OutS} {pos : Pos} (hp : PassesOwn (model X.prog X.w) X.A X.env X.xe) (hc : X.calm = true) (hi : DI X W tg iter f) (hg : DG X tg g) (hb : DSs X W body b)
    (hs : ∀ x, foldedSetIterable iter X.env x = pure x := by intro _; rfl) : DS X W (.For tg iter body [] pos) (sFor g f b) := by
  obtain ⟨wi, pi, ji⟩ := hi
  obtain ⟨tg', pg, jg⟩ := hg
  obtain ⟨tb, pb, jb⟩ := hb
  refine ⟨_, ps_for hp hc pi pg pb hs, fun G α H σ δ μ N ok re h => ?_⟩
  exact ji G α H σ δ μ _ ok re (PgS.bind re h fun us μ1 J G1 α1 H1 ok1 s1 wk h1 => for_wk jg jb wk ok1 (re.step s1) h1)
/-- signs of a text, one by one -/
def signs (z : Str) : List U := z.cps.toList.map fun c => .d (.str ⟨#[c]⟩)
def itemsU : U → Option (List U)
  | .d (.lst ds) => some (ds.map U.d)
  | .d (.tup ds) => some (ds.map U.d)
  | .d (.fl ds) => some (ds.map U.d)
  | .d (.str z) => some (signs z)
  | _ => none
def iU (f : DEnv → Store → Out U) : DEnv → Store → Out (List U) := fun δ μ => (f δ μ).bind fun u μ1 => match itemsU u with
  | some us => .ok us μ1
  | none => .stuck
def iAny (K : PySem.W.Frag) (tl : TE) : TI := fun σ H R => tl σ H fun x H1 => (∃ a, x = .ref a ∧ (∃ xs, SqL K H1 a xs) ∧ R (Itl K a) H1) ∨ (∃ a, x = .ref a ∧ (∃ xs, SqT K H1 a xs) ∧ R (Itt K a) H1) ∨ (∃ z, x = .str z ∧ R (Its z) H1)
theorem pi_any {tg l : Expr} {tl : TE} (hl : PE X l tl) : PI X tg l (iAny X.K tl) := by
  refine ⟨fun pins s σ H R I h => ?_⟩
  refine thn (hl.run pins s σ H _ I h) fun v s1 ⟨x, H1, I1, r1, q1⟩ => ?_
  rcases q1 with ⟨a, e, ⟨xs, hq⟩, q⟩ | ⟨a, e, ⟨xs, hq⟩, q⟩ | ⟨z, e, q⟩
  · subst e
    cases r1
    obtain ⟨its, rv, p, hz⟩ := I1.list hq
    refine wpAny_pyIter_list p.isList ?_
    refine ⟨s1.heap.objs.size, [s1.heap.objs.size], _, _, H1, rfl, I1.kept (t' := s1.toks) fun b o e => Heap.get?_push_of_some _ e, turn_list a _, ⟨_, Heap.get?_push_size _ rfl, rfl, rfl⟩, fun b hb => ?_, q⟩
    have e : b = s1.heap.objs.size := by simpa using hb
    subst e
    exact I1.fpOk (Nat.le_refl _) (I1.hok.fresh (Nat.le_refl _))
  · subst e
    cases r1
    obtain ⟨its, rv, p, hz⟩ := I1.tuple hq
    refine wpAny_pyIter_tuple (show s1.heap.IsTuple a its.toArray from p) ?_
    refine ⟨s1.heap.objs.size, [s1.heap.objs.size], _, _, H1, rfl, I1.kept (t' := s1.toks) fun b o e => Heap.get?_push_of_some _ e, turn_tuple a _, ⟨_, Heap.get?_push_size _ rfl, rfl, rfl⟩, fun b hb => ?_, q⟩
    have e : b = s1.heap.objs.size := by simpa using hb
    subst e
    exact I1.fpOk (Nat.le_refl _) (I1.hok.fresh (Nat.le_refl _))
  · subst e
    obtain ⟨t, rfl⟩ := r1
    cases ha : z.cps.all (· < 128)
    · exact wpAny_pyIter_wide ha (pi_one (tk := s1.toks) I1 _ (turn_str _ z t "str_iterator" (.inr rfl)) ⟨_, Heap.get?_push_size _ rfl, rfl, rfl⟩ q)
    · exact wpAny_pyIter_ascii ha (pi_one (tk := s1.toks) I1 _ (turn_str _ z t "str_ascii_iterator" (.inl rfl)) ⟨_, Heap.get?_push_size _ rfl, rfl, rfl⟩ q)
theorem wk_list {K : PySem.W.Frag} {G : Hp} {α : List Addr} {a : Addr} {xs : List V} {ds : List D} (h : SqL K G a xs) (r : RepL K G xs ds) : Wk K G α (Itl K a) (ds.map U.d) := fun G1 α1 H1 μ1 i ok e pa => by
  have h1 : SqL K H1 a xs := ex_l ok.ex (ex_l e h)
  obtain ⟨β, rfl⟩ := pa
  refine ⟨fun u hu => ?_, fun hl => ⟨xs, h1, by rw [r.length]; simpa using hl⟩⟩
  obtain ⟨v, hv, rv⟩ := RepUL.get (r.toU (α := α)) i u hu
  refine ⟨⟨xs, v, h1, hv⟩, fun x H' y => ?_⟩
  obtain ⟨rfl, y⟩ := y
  have ex : x = v := by
    have := y xs h1
    rw [hv] at this
    exact (Option.some.inj this).symm
  subst ex
  exact ⟨G1, ok, Stp.refl _ _ _, rv.mono e⟩
theorem wk_tup {K : PySem.W.Frag} {G : Hp} {α : List Addr} {a : Addr} {xs : List V} {ds : List D} (h : SqT K G a xs) (r : RepL K G xs ds) : Wk K G α (Itt K a) (ds.map U.d) := fun G1 α1 H1 μ1 i ok e pa => by
  have h1 : SqT K H1 a xs := ex_t ok.ex (ex_t e h)
  obtain ⟨β, rfl⟩ := pa
  refine ⟨fun u hu => ?_, fun hl => ⟨xs, h1, by rw [r.length]; simpa using hl⟩⟩
  obtain ⟨v, hv, rv⟩ := RepUL.get (r.toU (α := α)) i u hu
  refine ⟨⟨xs, v, h1, hv⟩, fun x H' y => ?_⟩
  obtain ⟨rfl, y⟩ := y
  have ex : x = v := by
    have := y xs h1
    rw [hv] at this
    exact (Option.some.inj this).symm
  subst ex
  exact ⟨G1, ok, Stp.refl _ _ _, rv.mono e⟩
theorem wk_str {K : PySem.W.Frag} {G : Hp} {α : List Addr} {z : Str} : Wk K G α (Its z) (signs z) := fun G1 α1 H1 μ1 i ok e pa => by
  refine ⟨fun u hu => ?_, fun hl => ?_⟩
  · unfold signs at hu
    rw [List.getElem?_map, Option.map_eq_some_iff] at hu
    obtain ⟨c, hc, rfl⟩ := hu
    have hc' : z.cps[i]? = some c := by simpa using hc
    refine ⟨?_, fun x H' y => ?_⟩
    · exact (Array.getElem?_eq_some_iff.mp hc').1
    · obtain ⟨rfl, c', h1, rfl⟩ := y
      rw [hc'] at h1
      cases h1
      exact ⟨G1, ok, Stp.refl _ _ _, .str⟩
  · unfold signs at hl
    rw [List.length_map] at hl
    show z.cps.size ≤ i
    simpa using hl
theorem di_u {tg l : Expr} {f : DEnv → Store → Out U} (hl : DE X W l f) : DI X W tg l (iU f) := by
  obtain ⟨t, p, j⟩ := hl
  refine ⟨_, pi_any p, fun G α H σ δ μ Q ok re hp => ?_⟩
  refine j G α H σ δ μ _ ok re (hp.bind fun u μ1 v G1 α1 H1 ok1 s1 r1 hp1 => ?_)
  cases u with
  | own n => exact hp1.elim
  | exc a dd x => exact hp1.elim
  | d x =>
    cases x with
    | lst ds =>
      cases r1 with
      | lst h r => exact .inl ⟨_, rfl, ⟨_, SqL.of (ok1.ex _ _ h)⟩, hp1 _ _ _ _ ok1 (Stp.refl _ _ _) (wk_list (SqL.of h) r)⟩
    | fl ds =>
      cases r1 with
      | fl h r => exact .inl ⟨_, rfl, ⟨_, ex_l ok1.ex h⟩, hp1 _ _ _ _ ok1 (Stp.refl _ _ _) (wk_list h r)⟩
    | tup ds =>
      cases r1 with
      | tup h r => exact .inr (.inl ⟨_, rfl, ⟨_, ex_t ok1.ex h⟩, hp1 _ _ _ _ ok1 (Stp.refl _ _ _) (wk_tup h r)⟩)
    | str z =>
      cases r1
      exact .inr (.inr ⟨_, rfl, hp1 _ _ _ _ ok1 (Stp.refl _ _ _) wk_str⟩)
    | _ => exact hp1.elim
/-- range(n), range(a, b) -/
def rng (lo : Int) (n : Nat) : List U := (List.range n).map fun (k : Nat) => .d (.int (lo + k))
def iRng1 (f : DEnv → Store → Out (List U)) : DEnv → Store → Out (List U) := fun δ μ => (f δ μ).bind fun us μ1 => match us with
  | [.d (.int j)] => guard (decide (-(2 ^ 62) ≤ j ∧ j < 2 ^ 62)) (.ok (rng 0 j.toNat) μ1)
  | _ => .stuck
def iRng2 (f : DEnv → Store → Out (List U)) : DEnv → Store → Out (List U) := fun δ μ => (f δ μ).bind fun us μ1 => match us with
  | [.d (.int i), .d (.int j)] => guard (decide (-(2 ^ 62) ≤ i ∧ i < 2 ^ 62 ∧ -(2 ^ 62) ≤ j ∧ j < 2 ^ 62)) (.ok (rng i (j - i).toNat) μ1)
  | _ => .stuck
theorem wk_rng {K : PySem.W.Frag} {G : Hp} {α : List Addr} {lo : Int} {n : Nat} : Wk K G α (Itr lo n) (rng lo n) := fun G1 α1 H1 μ1 i ok e pa => by
  unfold rng
  refine ⟨fun u hu => ?_, fun hl => show n ≤ i by simpa using hl⟩
  rw [List.getElem?_map, Option.map_eq_some_iff] at hu
  obtain ⟨k, hk, rfl⟩ := hu
  obtain ⟨hl, e1⟩ := List.getElem?_eq_some_iff.mp hk
  rw [List.getElem_range] at e1
  subst e1
  refine ⟨show i < n by simpa using hl, fun x H' y => ?_⟩
  obtain ⟨rfl, rfl⟩ := y
  exact ⟨G1, ok, Stp.refl _ _ _, .int⟩
theorem di_range1 {tg a : Expr} {f : DEnv → Store → Out (List U)} {p pos : Pos} (hg : Gl X "range") (hm : X.mg "range" = none) (ha : DA X W [a] f) (hs : starEach [a] X.env = [(false, eval a X.env)] := by rfl) : DI X W tg (.Call (.Name "range" p) [a] [] pos) (iRng1 f) := by
  obtain ⟨t, pa, j⟩ := ha
  refine ⟨_, pi_range1 hg hm pa hs, fun G α H σ δ μ Q ok re hp => ?_⟩
  refine j G α H σ δ μ _ ok re (hp.bind fun us μ1 vs G1 α1 H1 ok1 s1 r1 hp1 => ?_)
  split at hp1
  · obtain ⟨v, rfl, r2⟩ := one_rep r1
    cases r2
    obtain ⟨h1, hp1⟩ := hp1.guard
    obtain ⟨h2, h3⟩ := of_decide_eq_true h1
    exact ⟨_, rfl, h2, h3, hp1 _ _ _ _ ok1 (Stp.refl _ _ _) wk_rng⟩
  · exact hp1.elim
theorem di_range2 {tg a b : Expr} {f : DEnv → Store → Out (List U)} {p pos : Pos} (hg : Gl X "range") (hm : X.mg "range" = none) (ha : DA X W [a, b] f) (hs : starEach [a, b] X.env = [(false, eval a X.env), (false, eval b X.env)] := by rfl) (hs2 : starEach [b] X.env = [(false, eval b X.env)] := by rfl) : DI X W tg (.Call (.Name "range" p) [a, b] [] pos) (iRng2 f) := by
  obtain ⟨t, pa, j⟩ := ha
  refine ⟨_, pi_range2 hg hm pa hs hs2, fun G α H σ δ μ Q ok re hp => ?_⟩
  refine j G α H σ δ μ _ ok re (hp.bind fun us μ1 vs G1 α1 H1 ok1 s1 r1 hp1 => ?_)
  split at hp1
  · obtain ⟨v, v', rfl, r2, r3⟩ := two_rep r1
    cases r2
    cases r3
    obtain ⟨h1, hp1⟩ := hp1.guard
    exact ⟨_, _, rfl, of_decide_eq_true h1, hp1 _ _ _ _ ok1 (Stp.refl _ _ _) wk_rng⟩
  · exact hp1.elim
end
end HB
end
section
set_option Elab.async false
set_option linter.all false
set_option maxRecDepth 100000
set_option maxHeartbeats 4000000
namespace HB
open PySem PySem.Spec L2
open PyProof.Rows hiding St
/-! ### a def's promise where no repr is under way -/
structure FnG (P : Program) (w : World) (K : PySem.W.Frag) (mg : Str → Option Value) (base : Heap) (k : Nat) (f : Addr) (fd : FuncData) (ps : List Str) (sp : Sp) : Prop where
  len : ∀ vs H Q E, sp vs H Q E → vs.length = ps.length
  run : ∀ (A : Around) (outer : List Env) (s : Shared) (H : Hp) (args : Args) (us : List Value) (vs : List V) (Q : VK) (E : XK), A.guards = some [] → Room k A → Env0 P w K mg base A outer s H → BindsTo s fd args (ps.zip us) → Vals vs us →
    sp vs H Q E → codeAny (model P w) A (.call (.ref f) args) (CR (L2.CX P w) outer P w H s Q E) s
section
variable {P : Program} {w : World} {K : PySem.W.Frag} {mg : Str → Option Value} {base : Heap}
theorem FnG.imp {k : Nat} {f : Addr} {fd : FuncData} {ps : List Str} {sp sp' : Sp} (F : FnG P w K mg base k f fd ps sp) (h : ∀ vs H Q E, sp' vs H Q E → sp vs H Q E) : FnG P w K mg base k f fd ps sp' where
  len vs H Q E q := F.len vs H Q E (h _ _ _ _ q)
  run A outer s H args us vs Q E hg hr he hb hv hs := F.run A outer s H args us vs Q E hg hr he hb hv (h _ _ _ _ hs)
theorem FnG.of {k : Nat} {f : Addr} {fd : FuncData} {ps : List Str} {sp : Sp} (F : FnOk P w K mg base (L2.CX P w) k f fd ps sp) : FnG P w K mg base k f fd ps sp where
  len := F.len
  run A outer s H args us vs Q E _ hr he hb hv hs := F.run A outer s H args us vs Q E hr he hb hv hs
theorem fnG_of {x qual : Str} {params : Arguments} {body : List Stmt} {scope : Scope} {dvs : List V} {kws : List (Str × V)} {f : Addr} {fd : FuncData} {N ps : List Str} {k : Nat} {sp : Sp} (Fd : FunD K x qual params body scope dvs kws f fd) (S : FnScope N ps scope) (len : ∀ vs H Q E, sp vs H Q E → vs.length = ps.length)
    (hbody : ∀ (cdv : Value) (A : Around) (outer : List Env) (s : Shared) (H : Hp) (vs : List V) (Q : VK) (E : XK), A.guards = some [] → Room k (A.deeper (envOfC qual scope s.heap.objs.size f cdv)) → sp vs H Q E →
      ∃ t, PSs (cxOf (L2.CX P w) P w K mg base N qual scope f cdv A outer s H E) body t ∧ t { nx := fun _ H' => Q .non H', rt := Q } (L2.start N vs) H) : FnG P w K mg base (k + 1) f fd ps sp := by
  obtain ⟨oc, od, dV, kV, dc, pm, an, cdv, ct, osl, rfl, lk, hcd, _, _⟩ := Fd.ex
  refine ⟨len, ?_⟩
  intro A outer s H args us vs Q E hg hr env0 bind rel hsp
  obtain ⟨t, ht, hq⟩ := hbody cdv A outer s H vs Q E hg (hr.deeper _) hsp
  have old : ∀ b o, base.get? b = some o → s.heap.get? b = some o := fun b o z => (env0.bs b o z).1
  have inK : K.In s.heap := env0.mod.kin.keeps old
  have nolim : s.heap.NoLimit := env0.mod.nolimit.keeps old
  have kinds : ∀ y ∈ ps.zip us, scope.names.lookup y.1 = some .local ∨
      (scope.names.lookup y.1 = some .cell ∧ ((cellsFrom (s.heap.objs.size + 1) scope.names []).lookup y.1).isSome = true) := by
    rintro ⟨n, v⟩ hy
    exact (S.par n (List.of_mem_zip hy).1).imp id fun q => ⟨q, PySem.W.cellsFrom_some _ _ _ (.inl q)⟩
  apply codeAny_call_function hr.depth (inK _ _ lk) rfl S.co S.gen rfl (PySem.W.codeRec_of inK hcd)
  apply bind
  apply wpAny_newFunctionEnv_cells S.kind kinds
  rintro _ rfl s1 x
  refine ⟨nolim.keeps x.toInCall.keep, codeAny_func ?_⟩
  have I := inv_start (CX := L2.CX P w) (E := E) S hr.hd env0 (len _ _ _ _ hsp) rel x
  refine wpAny_mono (ht.run [] s1 _ H _ I hq) ?_ (fun _ _ z => z)
  intro fl s' hs
  match fl, hs with
  | .ret u, ⟨v, σ', H', J, rv, q⟩ => exact ⟨v, H', J.os, J.bare, J.base, J.hok, rv, q⟩
  | .next, ⟨σ', H', J, q⟩ => exact ⟨.non, H', J.os, J.bare, J.base, J.hok, rfl, q⟩
  | .brk, ⟨_, _, _, q⟩ => exact q.elim
  | .cont, ⟨_, _, _, q⟩ => exact q.elim
end
section
variable {X : Cx} {k : Nat} {f : Addr} {fd : FuncData} {ps : List Str} {sp : Sp}
/-- the call of a def by its name -/
theorem pe_callG {W : WX} {x : Str} {e : Expr} {es : List Expr} {t : TA} {p pos : Pos} {dvs : List V} {ds : List Value} (F : FnG X.prog X.w X.K X.mg X.base k f fd ps sp) (hgd : X.A.guards = some []) (hr : Room k X.A) (hg : Gl X x) (hm : X.mg x = some (.ref f)) (hk : PySem.W.keepIn X.K (.ref f) = true) (hb : Binds X.K fd ps ds) (hd : Vals dvs ds) (tk : Takes X W)
    (ha : PA X (e :: es) t) (hdb : (x == ("__debug__" : Str)) = false := by decide) (he : starEach (e :: es) X.env = (false, eval e X.env) :: starEach es X.env := by rfl) (hpl : (backTo pos (starEach es X.env)).any (·.1) = false := by rfl) :
    PE X (.Call (.Name x p) (e :: es) [] pos) (tCallSD sp dvs (WE W) t) := by
  constructor
  intro pins s σ H Q I h
  apply wpAny_Call_Name_kw
  apply ld_glob I hg hm _ hdb
  apply PySem.W.callWith_K (h₀ := X.base) I.ok.mod.kin hk _ he hpl
  refine thn (ha.run pos pins s σ H _ I h) ?_
  rintro us s1 ⟨vs, H1, I1, r, q⟩
  have r2 : Vals (vs ++ dvs) (us ++ ds) := r.append hd
  have hl : (us ++ ds).length = ps.length := r2.length.symm.trans (F.len _ _ _ _ q)
  refine ⟨I1.kIn, wpAny_call (codeAny_mono (F.run X.A X.stack s1 H1 ⟨us, []⟩ _ _ Q (WE W σ) hgd hr I1.env0 (hb s1 us I1.kIn hl) r2 q) ?_)⟩
  intro res s' hq
  match res, hq with
  | .error e, hq => exact passAt tk σ pins H1 s1 e s' I1 hq
  | .ok (.ret u), hq => exact I1.after hq
  | .ok .next, hq => exact hq.elim
  | .ok .brk, hq => exact hq.elim
  | .ok .cont, hq => exact hq.elim
end
end HB
end
section
set_option Elab.async false
set_option linter.all false
set_option maxRecDepth 100000
set_option maxHeartbeats 4000000
namespace HB
open PySem PySem.Spec L2
open PyProof.Rows hiding St
/-! ### the end of a law, its def by FnG -/
section
variable {P : Program} {w : World} {K : PySem.W.Frag} {mg mb : Str → Option Value} {k : Nat} {fa a : Addr} {fd : FuncData} {x : Str} {sp : Sp} {s : Shared} {vs : List Value} {ns : List Int}
/-- the frozen script -/
def frS (a : Addr) (vs : List Value) (ns : List Int) : Hp := fun b => if b = a then some (.frz { cls := .type "list", data := .seq vs.toArray } (.lst (ns.map V.int))) else none
/-- a heap that tracks the script at most -/
structure Tracks (P : Program) (w : World) (K : PySem.W.Frag) (H : Hp) (s : Shared) (a : Addr) : Prop where
  only : Only H
  ok : HOk P w H s.heap
  here : ∀ b, H b ≠ none → b = a
  new : H a ≠ none → K.lookup a = none
theorem law_core {H : Hp} (KX : K.In s.heap) (hns : s.heap.Ns mainGlobals mg) (hb : s.heap.Ns builtinsNs mb) (hbb : ∀ y : Str, y ≠ "__name__" → mb y = bootBuiltins y) (hlim : s.heap.NoLimit) (hgen : s.gens = #[])
    (ha : s.heap.get? a = some { cls := .type "list", data := .seq vs.toArray }) (hr : Room k callerA) (F : ∀ base : Heap, K.In base → base.Ns mainGlobals mg → FnG P w K mg base k fa fd [x] sp) (hbind : ∀ (s : Shared) (u : Value), BindsTo s fd ⟨[u], []⟩ [(x, u)])
    (T : Tracks P w K H s a) (hsp : sp [.ref a] H (fun v _ => v = .bl true) fun _ _ _ => False) :
    codeAny (model P w) callerA (.call (.ref fa) ⟨[.ref a], []⟩) (fun r s' => r = .ok (.ret (.bool true)) ∧ OldK s.heap s'.heap ∧ s'.os = s.os ∧ AllBare s'.gens) s := by
  have free : ∀ {b : Addr}, b ≠ a → H b = none := fun {b} nb => Classical.byContradiction fun z => nb (T.here b z)
  have dict : ∀ {b : Addr} {o : Obj} {es : Array DictEntry} {ep : Nat}, s.heap.get? b = some o → o.data = .dict es ep → H b = none := by
    intro b o es ep e d
    apply free
    rintro rfl
    rw [ha] at e
    cases e
    cases d
  let base := hidT s.heap H
  have ns' : ∀ {b : Addr} {m : Str → Option Value}, s.heap.Ns b m → base.Ns b m := by
    rintro b m ⟨o, es, ep, e, d, r⟩
    exact ⟨o, es, ep, hidT_get e (dict e d), d, r⟩
  have kin : K.In base := by
    intro b o e
    refine hidT_get (KX b o e) (Classical.byContradiction fun z => ?_)
    have q := T.here b z
    subst q
    rw [T.new z] at e
    cases e
  have md : Mod K mg base := by
    obtain ⟨mc, h1, h2⟩ := hlim
    exact { kin := kin, glob := ns' hns, blt := ⟨mb, ns' hb, hbb⟩, nolimit := ⟨mc, ns' h1, h2⟩ }
  have e0 : Env0 P w K mg base callerA [] s H :=
    { frames := rfl, mod := md, bs := fun b o e => of_hidT e, bsz := Nat.le_of_eq (hidT_size _ _), funs := trivial, frf := fun b hb => (List.not_mem_nil hb).elim, hok := T.ok, bare := .of_eq hgen }
  refine codeAny_mono ((F base kin (ns' hns)).run callerA [] s H ⟨[.ref a], []⟩ [.ref a] [.ref a] _ _ rfl hr e0 (hbind s (.ref a)) (.cons rfl .nil) hsp) ?_
  intro res s' h
  match res, h with
  | .ok .next, h => exact h.elim
  | .ok .brk, h => exact h.elim
  | .ok .cont, h => exact h.elim
  | .error e, h =>
    obtain ⟨_, _, _, _, _, _, _, _, _, _, _, _, z⟩ := h
    exact z.elim
  | .ok (.ret u), h =>
    obtain ⟨v, H', os, bare, un, ok', r', q⟩ := h
    have q' : v = .bl true := q
    subst q'
    have eu : u = Value.bool true := r'
    subst eu
    refine ⟨rfl, OldK.of_keep ?_, os, bare⟩
    intro b o e
    cases hq : H b with
    | none => exact un.keep b o e hq List.not_mem_nil List.not_mem_nil
    | some t =>
      rcases T.only b with z | ⟨ob, xs, z⟩
      · rw [hq] at z
        cases z
      · have e1 := (T.ok b _ z).1
        have e2 := (ok' b _ (un.frzs b ob _ z)).1
        rw [e] at e1
        cases e1
        exact e2
theorem law_end (KX : K.In s.heap) (hns : s.heap.Ns mainGlobals mg) (hb : s.heap.Ns builtinsNs mb) (hbb : ∀ y : Str, y ≠ "__name__" → mb y = bootBuiltins y) (hlim : s.heap.NoLimit) (hgen : s.gens = #[])
    (ha : s.heap.get? a = some { cls := .type "list", data := .seq vs.toArray }) (hi : IntsAre vs ns) (hl : ns.length ≤ sizeLine) (hr : Room k callerA) (F : ∀ base : Heap, K.In base → base.Ns mainGlobals mg → FnG P w K mg base k fa fd [x] sp) (hbind : ∀ (s : Shared) (u : Value), BindsTo s fd ⟨[u], []⟩ [(x, u)])
    (hsp : ∀ H : Hp, SqL K H a (ns.map V.int) → sp [.ref a] H (fun v _ => v = .bl true) fun _ _ _ => False) :
    codeAny (model P w) callerA (.call (.ref fa) ⟨[.ref a], []⟩) (fun r s' => r = .ok (.ret (.bool true)) ∧ OldK s.heap s'.heap ∧ s'.os = s.os ∧ AllBare s'.gens) s := by
  have rv : Vals (ns.map V.int) vs := vals_of_ints hi
  have lv : vs.length = ns.length := hi.length
  cases hk : K.lookup a with
  | some o =>
    have e := KX a o hk
    rw [ha] at e
    cases e
    have T : Tracks P w K (fun _ => none) s a := ⟨fun _ => .inl rfl, fun b u z => (by cases (show (none : Option HO) = some u from z)), fun b z => absurd rfl z, fun z => absurd rfl z⟩
    exact law_core KX hns hb hbb hlim hgen ha hr F hbind T (hsp _ (.inr ⟨_, vs.toArray, _, hk, rfl, rfl, rfl, by rw [List.size_toArray, lv]; exact hl, by simpa using rv⟩))
  | none =>
    have at_ : frS a vs ns a = some (.frz { cls := .type "list", data := .seq vs.toArray } (.lst (ns.map V.int))) := if_pos rfl
    have off : ∀ {b : Addr}, b ≠ a → frS a vs ns b = none := fun h => if_neg h
    have T : Tracks P w K (frS a vs ns) s a := by
      refine ⟨fun b => ?_, fun b u z => ?_, fun b z => Classical.byContradiction fun nb => z (off nb), fun _ => hk⟩
      · by_cases nb : b = a
        · subst nb
          exact .inr ⟨_, _, at_⟩
        · exact .inl (off nb)
      · by_cases nb : b = a
        · subst nb
          rw [at_] at z
          cases z
          exact ⟨ha, by rw [List.length_map]; exact hl, vs, _, rv, ha⟩
        · rw [off nb] at z
          cases z
    exact law_core KX hns hb hbb hlim hgen ha hr F hbind T (hsp _ (.inl (.inr ⟨_, at_⟩)))
end
/-- the walk, from the head's facts -/
theorem walk_G {l : PySem.W.OpenLaw} {n k : Nat} {q : Program} {loose : List Str} {XP : (Str → Option Value) → Heap → Prop} {YP : World → Heap → Prop} {d : DefRec} {x : Str} (hn : l.most = some n) (hn2 : n ≤ sizeLine) (hdf : d.params.defaults = []) (hr : Room k callerA)
    (F : ∀ (w : World) (mg : Str → Option Value) (fa : Addr) (h : Heap), YP w h → h.Ns mainGlobals mg → mg d.name = some (.ref fa) →
      ∃ (K : PySem.W.Frag) (fd : FuncData) (sp : Sp), K.In h ∧ (∀ (s : Shared) (u : Value), BindsTo s fd ⟨[u], []⟩ [(x, u)]) ∧ (∀ (H : Hp) (a : Addr) (ns : List Int), ns.length ≤ n → SqL K H a (ns.map V.int) → sp [.ref a] H (fun v _ => v = .bl true) fun _ _ _ => False) ∧
        ∀ base : Heap, K.In base → base.Ns mainGlobals mg → FnG l.prog w K mg base k fa fd [x] sp) :
    PySem.W.WalkO q loose XP YP l.row.toRowW d [] (fun f vs => PySem.call f vs) := by
  apply Att.attach_call hn hdf
  intro w s₀ s₁ mg mb fa o pm cd doc a vs ns G Y ho hd hcd hmg hobj hints hlen hg
  obtain ⟨K, fd, sp, KX, hb, hsp, hF⟩ := F w mg fa _ Y G.T.g hmg
  exact law_end KX G.T.g G.T.b G.T.builtins G.T.nolimit hg hobj hints (Nat.le_trans hlen hn2) hr hF hb fun H hS => hsp H a ns hlen hS
end HB
end
section
set_option Elab.async false
set_option linter.all false
set_option maxRecDepth 100000
set_option maxHeartbeats 4000000
namespace HB
open PySem PySem.Spec L2
open PyProof.Rows hiding St
open Evl (Ex ex_t ex_l ex_rd)
/-! ### defs -/
/-- a def's promise by a function over data -/
def SpU (K : PySem.W.Frag) (g : List U → Store → Out U) : Sp := fun vs H Q E => ∃ G α μ us, Ok K G α H μ ∧ RepUL K G α vs us ∧ Pg (ρU K) K G α H [] (g us μ) Q fun cls d _ H' => E cls d H'
def startE (N : List Str) (us : List U) : DEnv := us.map some ++ List.replicate (N.length - us.length) none
def fnU (N : List Str) (np : Nat) (F : DEnv → Store → OutS) : List U → Store → Out U := fun us μ => if us.length = np then (match F (startE N us) μ with
  | .nx _ μ' => .ok (.d .non) μ'
  | .ret u μ' => .ok u μ'
  | .err x _ μ' => .err x μ'
  | _ => .stuck) else .stuck
theorem start_rep {K : PySem.W.Frag} {G : Hp} {α : List Addr} {N : List Str} {vs : List V} {us : List U} (r : RepUL K G α vs us) : RepE K G α (L2.start N vs) (startE N us) := by
  have el : vs.length = us.length := r.length
  refine ⟨by unfold L2.start startE; simp [el], fun i u e => ?_⟩
  unfold startE at e
  unfold L2.start
  by_cases hi : i < us.length
  · rw [List.getElem?_append_left (by simpa using hi), List.getElem?_map, Option.map_eq_some_iff] at e
    obtain ⟨w, h1, h2⟩ := e
    cases h2
    obtain ⟨v, h3, h4⟩ := r.get i _ h1
    refine ⟨v, ?_, h4⟩
    rw [List.getElem?_append_left (by simpa [el] using hi), List.getElem?_map, h3]
    rfl
  · rw [List.getElem?_append_right (by simpa using hi)] at e
    have := List.mem_of_getElem? e
    simp at this
section
variable {P : Program} {w : World} {K : PySem.W.Frag} {mg : Str → Option Value} {base : Heap}
/-- the wish at a def's end -/
abbrev WF (E : XK) : WX := fun cls d _ H => E cls d H
theorem fn_ok {x qual : Str} {params : Arguments} {body : List Stmt} {scope : Scope} {dvs : List V} {kws : List (Str × V)} {f : Addr} {fd : FuncData} {N ps : List Str} {k : Nat} {F : DEnv → Store → OutS} (Fd : FunD K x qual params body scope dvs kws f fd) (S : FnScope N ps scope)
    (hb : ∀ (cdv : Value) (A : Around) (outer : List Env) (s : Shared) (H : Hp) (E : XK), A.guards = some [] → Room k (A.deeper (envOfC qual scope s.heap.objs.size f cdv)) →
      DSs (cxOf (L2.CX P w) P w K mg base N qual scope f cdv A outer s H E) (WF E) body F) : FnG P w K mg base (k + 1) f fd ps (SpU K (fnU N ps.length F)) := by
  refine fnG_of Fd S (fun vs H Q E h => ?_) (fun cdv A outer s H vs Q E hgd hr h => ?_)
  · obtain ⟨G, α, μ, us, ok, r, hp⟩ := h
    unfold fnU at hp
    split at hp
    · rename_i e
      rw [RepUL.length r, e]
    · exact hp.elim
  · obtain ⟨t, p, j⟩ := hb cdv A outer s H E hgd hr
    refine ⟨t, p, ?_⟩
    obtain ⟨G, α, μ, us, ok, r, hp⟩ := h
    unfold fnU at hp
    split at hp
    · refine j G α H _ (startE N us) μ _ ok (start_rep r) ?_
      cases e : F (startE N us) μ with
      | nx δ' μ' =>
        rw [e] at hp
        exact fun σ' G' α' H' ok' st re => hp .non G' α' H' ok' st .non
      | ret u μ' =>
        rw [e] at hp
        exact fun v G' α' H' ok' st re => hp v G' α' H' ok' st re
      | brk δ' μ' =>
        rw [e] at hp
        exact hp.elim
      | cnt δ' μ' =>
        rw [e] at hp
        exact hp.elim
      | err x δ' μ' =>
        rw [e] at hp
        exact fun dd σ' G' α' H' ok' st re xr => hp dd G' α' H' ok' st xr
      | stuck =>
        rw [e] at hp
        exact hp.elim
    · exact hp.elim
/-- a weaker function will do -/
def LeU (g' g : List U → Store → Out U) : Prop := ∀ us μ, g' us μ = .stuck ∨ g us μ = g' us μ
theorem fn_le {f : Addr} {fd : FuncData} {ps : List Str} {k : Nat} {g g' : List U → Store → Out U} (F : FnG P w K mg base k f fd ps (SpU K g)) (h : LeU g' g) : FnG P w K mg base k f fd ps (SpU K g') :=
  F.imp fun vs H Q E ⟨G, α, μ, us, ok, r, hp⟩ => ⟨G, α, μ, us, ok, r, by
    rcases h us μ with e | e
    · rw [e] at hp
      exact hp.elim
    · rw [e]
      exact hp⟩
end
/-! ### calls of defs -/
section
variable {X : Cx} {W : WX}
theorem jcall {g : List U → Store → Out U} {t : TA} {fa : DEnv → Store → Out (List U)} (ja : J (ρL X.K) X.K W t fa) : J (ρU X.K) X.K W (tCallSD (SpU X.K g) [] (WE W) t) (eCB g fa) := fun G α H σ δ μ Q ok re hp => by
  refine ja G α H σ δ μ _ ok re (hp.bind fun us μ1 vs G1 α1 H1 ok1 s1 r1 hp1 => ?_)
  refine ⟨G1, α1, μ1, us, ok1, by rw [List.append_nil]; exact r1, ?_⟩
  cases e : g us μ1 with
  | ok b μ2 =>
    rw [e] at hp1
    exact hp1
  | err x μ2 =>
    rw [e] at hp1
    exact hp1
  | stuck =>
    rw [e] at hp1
    exact hp1
theorem de_call {k : Nat} {f : Addr} {fd : FuncData} {ps : List Str} {g : List U → Store → Out U} {x : Str} {e : Expr} {es : List Expr} {fa : DEnv → Store → Out (List U)} {p pos : Pos} (F : FnG X.prog X.w X.K X.mg X.base k f fd ps (SpU X.K g)) (hgd : X.A.guards = some []) (hr : Room k X.A) (hg : Gl X x) (hm : X.mg x = some (.ref f))
    (hk : PySem.W.keepIn X.K (.ref f) = true) (hb : Binds X.K fd ps []) (tk : Takes X W) (ha : DA X W (e :: es) fa) (hdb : (x == ("__debug__" : Str)) = false := by decide) (he : starEach (e :: es) X.env = (false, eval e X.env) :: starEach es X.env := by rfl) (hpl : (backTo pos (starEach es X.env)).any (·.1) = false := by rfl) :
    DE X W (.Call (.Name x p) (e :: es) [] pos) (eCB g fa) := by
  obtain ⟨t, pa, ja⟩ := ha
  exact ⟨_, pe_callG F hgd hr hg hm hk hb .nil tk pa hdb he hpl, jcall ja⟩
end
/-! ### lists that are changed -/
theorem Ok.put {K : PySem.W.Frag} {G H : Hp} {α : List Addr} {μ : Store} {n : Nat} {a : Addr} {us : List U} {xs : List V} (ok : Ok K G α H μ) (hn : α[n]? = some a) (hc : ∃ vs, μ[n]? = some (.lst vs)) (hr : RepUL K G α xs us) :
    Ok K G α (upd H a (.lst xs)) (μ.set n (.lst us)) ∧ Stp G α H G α (upd H a (.lst xs)) := by
  obtain ⟨vs, hc⟩ := hc
  obtain ⟨ga, ys, k2, k3⟩ := ok.cell n a _ hn hc
  have ma : a ∈ α := List.mem_of_getElem? hn
  have hl : n < μ.length := (List.getElem?_eq_some_iff.mp hc).1
  refine ⟨⟨fun b o e => ?_, by rw [List.length_set]; exact ok.len, ok.nd, fun m b c h1 h2 => ?_⟩, ⟨Ex.refl G, ⟨[], by simp⟩, fun b o nb e => ?_, fun b h1 h2 => absurd h1 h2, fun b o nb e g => g⟩⟩
  · have nb : b ≠ a := fun z => by rw [z, ga] at e; cases e
    rw [upd_ne nb]
    exact ok.ex b o e
  · by_cases hm : n = m
    · subst hm
      rw [hn] at h1
      cases h1
      rw [List.getElem?_set_self hl] at h2
      cases h2
      exact ⟨ga, xs, upd_same, hr⟩
    · rw [List.getElem?_set_ne hm] at h2
      have nb : b ≠ a := fun z => by
        subst z
        exact hm (nd_ix ok.nd hn h1)
      have k := ok.cell m b c h1 h2
      cases c with
      | lst us =>
        obtain ⟨k1, zs, k2, k3⟩ := k
        exact ⟨k1, zs, by rw [upd_ne nb]; exact k2, k3⟩
      | ins c fs =>
        obtain ⟨k1, dx, zs, k2, k3⟩ := k
        exact ⟨k1, dx, zs, by rw [upd_ne nb]; exact k2, k3⟩
      | dead =>
        obtain ⟨o, k⟩ := k
        exact ⟨o, by rw [upd_ne nb]; exact k⟩
  · rw [upd_ne (fun z => nb (by rw [z]; exact ma))]
    exact e
/-! ### methods of lists -/
def isLs (μ : Store) (u : U) : Bool := (lsU μ u).isSome
def eMt (h : U → List U → Store → Out U) (f : DEnv → Store → Out U) (g : DEnv → Store → Out (List U)) : DEnv → Store → Out U := fun δ μ => (f δ μ).bind fun u μ1 => guard (isLs μ1 u) ((g δ μ1).bind fun us μ2 => h u us μ2)
def MtB (X : Cx) (W : WX) (id : String) (h : U → List U → Store → Out U) : Prop :=
  ∃ r, MtR X id r ∧ ∀ G α H σ μ x vs u us Q, Ok X.K G α H μ → RepU X.K G α x u → RepUL X.K G α vs us → Pg (ρU X.K) X.K G α H σ (h u us μ) Q W → r x vs H Q
section
variable {X : Cx} {W : WX}
theorem isLs_ty {K : PySem.W.Frag} {G H : Hp} {α : List Addr} {μ : Store} {v : V} {u : U} (ok : Ok K G α H μ) (r : RepU K G α v u) (h : isLs μ u = true) : tyV K "list" v H := by
  unfold isLs at h
  cases e : lsU μ u with
  | none =>
    rw [e] at h
    cases h
  | some us =>
    obtain ⟨a, xs, rfl, h1, _⟩ := lsU_at ok r e
    exact .inl ⟨rfl, xs, SqL.of h1⟩
theorem jbm {h : U → List U → Store → Out U} {f : DEnv → Store → Out U} {g : DEnv → Store → Out (List U)} {t : TE} {t2 : TA} {r : V → List V → Hp → VK → Prop} (j : J (ρU X.K) X.K W t f) (j2 : J (ρL X.K) X.K W t2 g)
    (hr : ∀ G α H σ μ x vs u us Q, Ok X.K G α H μ → RepU X.K G α x u → RepUL X.K G α vs us → Pg (ρU X.K) X.K G α H σ (h u us μ) Q W → r x vs H Q) : J (ρU X.K) X.K W (tBM X.K "list" r t t2) (eMt h f g) := by
  intro G α H σ δ μ Q ok re hp
  refine j G α H σ δ μ _ ok re (hp.bind fun u μ1 v G1 α1 H1 ok1 s1 r1 hp1 => ?_)
  obtain ⟨h1, hp1⟩ := hp1.guard
  refine ⟨isLs_ty ok1 r1 h1, ?_⟩
  refine j2 G1 α1 H1 σ δ μ1 _ ok1 (re.step s1) (hp1.bind fun us μ2 vs G2 α2 H2 ok2 s2 r2 hp2 => ?_)
  exact hr G2 α2 H2 σ μ2 v vs u us Q ok2 (s2.rep r1) r2 hp2
theorem de_bm {h : U → List U → Store → Out U} {name : Str} {id : String} {o e : Expr} {es : List Expr} {f : DEnv → Store → Out U} {g : DEnv → Store → Out (List U)} {apos cpos : Pos} (slot : Slot "list" name id) (hty : typeOf (.builtin id) = pure (.type "method_descriptor")) (hm : MtB X W id h) (ho : DE X W o f) (ha : DA X W (e :: es) g)
    (hbase : attributeBase o name X.env (eval o X.env) = eval o X.env := by rfl)
    (hfew : ((backTo cpos (starEach (e :: es) X.env)).all (fun x => !x.1) && (backToKw cpos (keywordEach [] X.env)).all (fun x => x.1.isSome)
      && decide ((e :: es).length + ([] : List Keyword).length + (if ([] : List Keyword).isEmpty then 0 else 1) < 30)) = true := by rfl)
    (hline : (apos.endLine == cpos.line) = true := by rfl) (hs : starEach (e :: es) X.env = (false, eval e X.env) :: starEach es X.env := by rfl) (hplain : (backTo cpos (starEach es X.env)).any (·.1) = false := by rfl) :
    DE X W (.Call (.Attribute o name apos) (e :: es) [] cpos) (eMt h f g) := by
  obtain ⟨r, mr, hr⟩ := hm
  obtain ⟨t, p, j⟩ := ho
  obtain ⟨t2, p2, j2⟩ := ha
  exact ⟨_, pe_bm PySem.F.plainAttrs_list slot hty mr p p2 hbase hfew hline hs hplain, jbm j j2 hr⟩
def eMt0 (h : U → Store → Out U) (f : DEnv → Store → Out U) : DEnv → Store → Out U := fun δ μ => (f δ μ).bind fun u μ1 => guard (isLs μ1 u) (h u μ1)
def MtB0 (X : Cx) (W : WX) (id : String) (h : U → Store → Out U) : Prop :=
  ∃ r, MtR X id r ∧ ∀ G α H σ μ x u Q, Ok X.K G α H μ → RepU X.K G α x u → Pg (ρU X.K) X.K G α H σ (h u μ) Q W → r x [] H Q
theorem de_bm0 {h : U → Store → Out U} {name : Str} {id : String} {o : Expr} {f : DEnv → Store → Out U} {apos cpos : Pos} (slot : Slot "list" name id) (hty : typeOf (.builtin id) = pure (.type "method_descriptor")) (hm : MtB0 X W id h) (ho : DE X W o f)
    (hbase : attributeBase o name X.env (eval o X.env) = eval o X.env := by rfl) (hline : (apos.endLine == cpos.line) = true := by rfl) : DE X W (.Call (.Attribute o name apos) [] [] cpos) (eMt0 h f) := by
  obtain ⟨r, mr, hr⟩ := hm
  obtain ⟨t, p, j⟩ := ho
  refine ⟨_, pe_bm0 PySem.F.plainAttrs_list slot hty mr p hbase hline, fun G α H σ δ μ Q ok re hp => ?_⟩
  refine j G α H σ δ μ _ ok re (hp.bind fun u μ1 v G1 α1 H1 ok1 s1 r1 hp1 => ?_)
  obtain ⟨h1, hp1⟩ := hp1.guard
  exact ⟨isLs_ty ok1 r1 h1, hr G1 α1 H1 σ μ1 v u Q ok1 r1 hp1⟩
/-- the cell of a list -/
theorem own_at {K : PySem.W.Frag} {G H : Hp} {α : List Addr} {μ : Store} {v : V} {n : Nat} {us : List U} (ok : Ok K G α H μ) (r : RepU K G α v (.own n)) (e : μ[n]? = some (.lst us)) : ∃ a xs, v = .ref a ∧ α[n]? = some a ∧ H a = some (.lst xs) ∧ RepUL K G α xs us := by
  obtain ⟨a, h1, rfl⟩ := r
  obtain ⟨_, xs, k2, k3⟩ := ok.cell n a _ h1 e
  exact ⟨a, xs, rfl, h1, k2, k3⟩
def appU : U → List U → Store → Out U
  | .own n, [x], μ => match μ[n]? with
    | some (.lst us) => guard (fits us.length) (.ok (.d .non) (μ.set n (.lst (us ++ [x]))))
    | _ => .stuck
  | _, _, _ => .stuck
theorem mb_append : MtB X W "list.append" appU := by
  refine ⟨_, mt_append, fun G α H σ μ x vs u us Q ok rx rv hp => ?_⟩
  unfold appU at hp
  split at hp
  · rename_i n y
    split at hp
    · rename_i ws e
      obtain ⟨h1, hp⟩ := hp.guard
      obtain ⟨v, rfl, r1⟩ := one_rep rv
      obtain ⟨a, xs, rfl, k1, k2, k3⟩ := own_at ok rx e
      obtain ⟨ok', st⟩ := ok.put k1 ⟨_, e⟩ (k3.append (.cons r1 .nil))
      exact ⟨a, xs, v, rfl, rfl, k2, by rw [k3.length]; exact fits_lt h1, hp _ _ _ _ ok' st .non⟩
    · exact hp.elim
  · exact hp.elim
def clearU : U → Store → Out U
  | .own n, μ => match μ[n]? with
    | some (.lst _) => .ok (.d .non) (μ.set n (.lst []))
    | _ => .stuck
  | _, _ => .stuck
theorem mb_clear : MtB0 X W "list.clear" clearU := by
  refine ⟨_, mt_clear, fun G α H σ μ x u Q ok rx hp => ?_⟩
  unfold clearU at hp
  split at hp
  · split at hp
    · rename_i ws e
      obtain ⟨a, xs, rfl, k1, k2, k3⟩ := own_at ok rx e
      obtain ⟨ok', st⟩ := ok.put k1 ⟨_, e⟩ (.nil)
      exact ⟨a, xs, rfl, rfl, k2, hp _ _ _ _ ok' st .non⟩
    · exact hp.elim
  · exact hp.elim
theorem paired_last {K : PySem.W.Frag} {G : Hp} {α : List Addr} {xs : List V} {us : List U} (r : RepUL K G α xs us) : RepUL K G α xs.dropLast us.dropLast := by
  have e1 : xs.dropLast = xs.take (xs.length - 1) := List.dropLast_eq_take
  have e2 : us.dropLast = us.take (us.length - 1) := List.dropLast_eq_take
  rw [e1, e2, r.length]
  exact r.take _
def popU : U → Store → Out U
  | .own n, μ => match μ[n]? with
    | some (.lst us) => (match us[us.length - 1]? with
      | some y => .ok y (μ.set n (.lst us.dropLast))
      | none => .stuck)
    | _ => .stuck
  | _, _ => .stuck
theorem mb_pop : MtB0 X W "list.pop" popU := by
  refine ⟨_, mt_pop, fun G α H σ μ x u Q ok rx hp => ?_⟩
  unfold popU at hp
  split at hp
  · split at hp
    · rename_i ws e
      split at hp
      · rename_i y ey
        obtain ⟨a, xs, rfl, k1, k2, k3⟩ := own_at ok rx e
        obtain ⟨v, hv, rv⟩ := k3.get _ _ ey
        obtain ⟨ok', st⟩ := ok.put k1 ⟨_, e⟩ (paired_last k3)
        exact ⟨a, xs, v, rfl, rfl, k2, by rw [k3.length]; exact hv, hp _ _ _ _ ok' st (st.rep rv)⟩
      · exact hp.elim
    · exact hp.elim
  · exact hp.elim
/-! ### xs[i] = e -/
def setIx : U → U → U → Store → Option Store
  | .own n, .d (.int k), x, μ => match μ[n]? with
    | some (.lst us) => (ixN us.length k).map fun j => μ.set n (.lst (us.set j x))
    | _ => none
  | _, _, _, _ => none
def sSetIx (fo fi fe : DEnv → Store → Out U) : DEnv → Store → OutS := sBind fe fun x δ μ => sBind fo (fun o δ μ1 => sBind fi (fun i δ μ2 => match setIx o i x μ2 with
  | some μ3 => .nx δ μ3
  | none => .stuck) δ μ1) δ μ
theorem ds_setIx {o i e : Expr} {fo fi fe : DEnv → Store → Out U} {tpos pos : Pos} (he : DE X W e fe) (ho : DE X W o fo) (hi : DE X W i fi)
    (hp : ∀ to ti, PE X o to → PE X i ti → PG X (.Subscript o i tpos) (gSub to ti rSetL)) (hs : swapsWithSole [.Subscript o i tpos] e pos.line X.env = pure false := by rfl) (hw : swappedStores [.Subscript o i tpos] e X.env = pure none := by rfl) (h1 : List.map (fun x => x.snd) (assignEach [.Subscript o i tpos] X.env) = [assign (.Subscript o i tpos) X.env] := by rfl) :
    DS X W (.Assign [.Subscript o i tpos] e pos) (sSetIx fo fi fe) := by
  obtain ⟨te, pe, je⟩ := he
  obtain ⟨to, po, jo⟩ := ho
  obtain ⟨ti, pi, ji⟩ := hi
  refine ⟨_, ps_asg pe (hp to ti po pi) hs hw h1, fun G α H σ δ μ N ok re h => ?_⟩
  refine je G α H σ δ μ _ ok re (PgS.bind re h fun x μ1 v G1 α1 H1 ok1 s1 r1 h1 => ?_)
  refine jo G1 α1 H1 σ δ μ1 _ ok1 (re.step s1) (PgS.bind (re.step s1) h1 fun o μ2 vo G2 α2 H2 ok2 s2 r2 h2 => ?_)
  refine ji G2 α2 H2 σ δ μ2 _ ok2 ((re.step s1).step s2) (PgS.bind ((re.step s1).step s2) h2 fun i μ3 vi G3 α3 H3 ok3 s3 r3 h3 => ?_)
  have r2' := s3.rep r2
  have r1' := s3.rep (s2.rep r1)
  have re3 := ((re.step s1).step s2).step s3
  unfold setIx at h3
  split at h3
  · rename_i μ' e
    split at e
    · split at e
      · rename_i us eu
        rw [Option.map_eq_some_iff] at e
        obtain ⟨j, ej, rfl⟩ := e
        obtain ⟨a, xs, rfl, k1, k2, k3⟩ := own_at ok3 r2' eu
        cases r3
        obtain ⟨ok', st⟩ := ok3.put k1 ⟨_, eu⟩ (k3.set r1' j)
        exact ⟨a, xs, _, j, rfl, rfl, k2, by rw [k3.length]; exact ej, h3 σ _ _ _ ok' st (re3.step st)⟩
      · cases e
    · cases e
  · exact h3.elim
/-! ### a list that is changed no more -/
theorem Ok.freeze {K : PySem.W.Frag} {G H : Hp} {α : List Addr} {μ : Store} {n : Nat} {a : Addr} {us : List U} {xs : List V} (ok : Ok K G α H μ) (hn : α[n]? = some a) (hc : μ[n]? = some (.lst us)) (hx : H a = some (.lst xs)) :
    Ok K (upd G a (.lst xs)) α H (μ.set n .dead) ∧ Stp G α H (upd G a (.lst xs)) α H ∧ Ex G (upd G a (.lst xs)) := by
  obtain ⟨ga, ys, k2, k3⟩ := ok.cell n a _ hn hc
  have eg : Ex G (upd G a (.lst xs)) := Ex.new ga
  have hl : n < μ.length := (List.getElem?_eq_some_iff.mp hc).1
  refine ⟨⟨fun b o e => ?_, by rw [List.length_set]; exact ok.len, ok.nd, fun m b c h1 h2 => ?_⟩, ⟨eg, ⟨[], by simp⟩, fun b o nb e => e, fun b h1 h2 => absurd h1 h2, fun b o nb e g => by rw [upd_ne (fun z => nb (by rw [z]; exact List.mem_of_getElem? hn))]; exact g⟩, eg⟩
  · by_cases hb : b = a
    · subst hb
      rw [upd_same] at e
      cases e
      exact hx
    · rw [upd_ne hb] at e
      exact ok.ex b o e
  · by_cases hm : n = m
    · subst hm
      rw [hn] at h1
      cases h1
      rw [List.getElem?_set_self hl] at h2
      cases h2
      exact ⟨_, hx⟩
    · rw [List.getElem?_set_ne hm] at h2
      have nb : b ≠ a := fun z => by
        subst z
        exact hm (nd_ix ok.nd hn h1)
      have k := ok.cell m b c h1 h2
      cases c with
      | lst us =>
        obtain ⟨k1, zs, k2, k3⟩ := k
        exact ⟨by rw [upd_ne nb]; exact k1, zs, k2, Paired.mapP k3 fun _ _ r => by simpa using RepU.mono (β := []) eg r⟩
      | ins c fs =>
        obtain ⟨k1, dx, zs, k2, k3⟩ := k
        exact ⟨by rw [upd_ne nb]; exact k1, dx, zs, k2, Paired.mapP k3 fun _ _ r => ⟨r.1, by simpa using RepU.mono (β := []) eg r.2⟩⟩
      | dead => exact k
def frzU (u : U) (μ : Store) : Out U := match u with
  | .d x => .ok (.d x) μ
  | .own n => match μ[n]? with
    | some (.lst us) => (match allD us with
      | some ds => .ok (.d (.lst ds)) (μ.set n .dead)
      | none => .stuck)
    | _ => .stuck
  | .exc _ _ _ => .stuck
def eFrz (f : DEnv → Store → Out U) : DEnv → Store → Out U := fun δ μ => (f δ μ).bind frzU
theorem frz_at {K : PySem.W.Frag} {G H : Hp} {α : List Addr} {μ : Store} {σ : St} {v : V} {u : U} {Q : VK} (ok : Ok K G α H μ) (r : RepU K G α v u) (hp : Pg (ρU K) K G α H σ (frzU u μ) Q W) : Q v H := by
  unfold frzU at hp
  split at hp
  · exact Pg.nowD ok r hp
  · split at hp
    · rename_i us e
      split at hp
      · rename_i ds e2
        obtain ⟨a, xs, rfl, k1, k2, k3⟩ := own_at ok r e
        obtain ⟨ok', st, eg⟩ := ok.freeze k1 e k2
        exact hp _ _ _ _ ok' st (show Rep K _ (.ref a) (.lst ds) from .lst upd_same (RepL.mono eg (allD_rep k3 e2)))
      · exact hp.elim
    · exact hp.elim
  · exact hp.elim
theorem de_frz {e : Expr} {f : DEnv → Store → Out U} (h : DE X W e f) : DE X W e (eFrz f) := by
  obtain ⟨t, p, j⟩ := h
  refine ⟨t, p, fun G α H σ δ μ Q ok re hp => ?_⟩
  exact j G α H σ δ μ _ ok re (hp.bind fun u μ1 v G1 α1 H1 ok1 s1 r1 hp1 => frz_at ok1 r1 hp1)
end
end HB
end
section
set_option Elab.async false
set_option linter.all false
set_option maxRecDepth 100000
set_option maxHeartbeats 4000000
namespace HB
open PySem PySem.Spec L2
open PyProof.Rows hiding St
open Evl (Ex ex_t ex_l ex_rd)
/-! ### what a def made for itself alone is dropped at its end -/
def below (n : Nat) : U → Bool
  | .d _ => true
  | .own k => decide (k < n)
  | .exc _ _ _ => true
def cellBelow (n : Nat) : Cell → Bool
  | .lst us => us.all (below n)
  | .ins _ fs => fs.all fun q => below n q.2
  | .dead => true
def trunc (g : List U → Store → Out U) : List U → Store → Out U := fun us μ => match g us μ with
  | .ok u μ' => guard (below μ.length u && (μ'.take μ.length).all (cellBelow μ.length)) (.ok u (μ'.take μ.length))
  | .err x μ' => guard ((μ'.take μ.length).all (cellBelow μ.length)) (.err x (μ'.take μ.length))
  | .stuck => .stuck
theorem below_rep {K : PySem.W.Frag} {G : Hp} {α β : List Addr} {v : V} {u : U} (h : below α.length u = true) (r : RepU K G (α ++ β) v u) : RepU K G α v u := by
  cases u with
  | d x => exact r
  | own k =>
    obtain ⟨a, h1, h2⟩ := r
    rw [List.getElem?_append_left (of_decide_eq_true h)] at h1
    exact ⟨a, h1, h2⟩
  | exc a dd x => exact r
theorem Ok.cut {K : PySem.W.Frag} {G H : Hp} {α β : List Addr} {μ : Store} (ok : Ok K G (α ++ β) H μ) (h : (μ.take α.length).all (cellBelow α.length) = true) : Ok K G α H (μ.take α.length) := by
  have hl := ok.len
  rw [List.length_append] at hl
  refine ⟨ok.ex, by rw [List.length_take]; omega, (List.nodup_append.mp ok.nd).1, fun n a c h1 h2 => ?_⟩
  have hn : n < α.length := (List.getElem?_eq_some_iff.mp h1).1
  have hc := List.all_eq_true.mp h c (List.mem_of_getElem? h2)
  rw [List.getElem?_take] at h2
  rw [if_pos hn] at h2
  have k := ok.cell n a c (pre_get h1) h2
  cases c with
  | lst us =>
    obtain ⟨k1, xs, k2, k3⟩ := k
    have hb : ∀ u ∈ us, below α.length u = true := List.all_eq_true.mp hc
    refine ⟨k1, xs, k2, ?_⟩
    clear h1 h2 hc k2
    induction k3 with
    | nil => exact .nil
    | cons r t ih => exact .cons (below_rep (hb _ (List.mem_cons_self ..)) r) (ih fun u hu => hb u (List.mem_cons_of_mem _ hu))
  | ins c fs =>
    obtain ⟨k1, dx, vs, k2, k3⟩ := k
    have hb : ∀ u ∈ fs, below α.length u.2 = true := List.all_eq_true.mp hc
    refine ⟨k1, dx, vs, k2, ?_⟩
    clear h1 h2 hc k2
    induction k3 with
    | nil => exact .nil
    | cons r t ih => exact .cons ⟨r.1, below_rep (hb _ (List.mem_cons_self ..)) r.2⟩ (ih fun u hu => hb u (List.mem_cons_of_mem _ hu))
  | dead => exact k
theorem Stp.cut {G G' : Hp} {α α' : List Addr} {H H' : Hp} (s : Stp G α H G' α' H') : Stp G α H G' α H' := ⟨s.g, ⟨[], by simp⟩, s.h, fun b h1 h2 => absurd h1 h2, s.n⟩
theorem fn_trunc {P : Program} {w : World} {K : PySem.W.Frag} {mg : Str → Option Value} {base : Heap} {f : Addr} {fd : FuncData} {ps : List Str} {k : Nat} {g : List U → Store → Out U} (F : FnG P w K mg base k f fd ps (SpU K g)) : FnG P w K mg base k f fd ps (SpU K (trunc g)) :=
  F.imp fun vs H Q E ⟨G, α, μ, us, ok, r, hp⟩ => ⟨G, α, μ, us, ok, r, by
    unfold trunc at hp
    rw [← ok.len] at hp
    cases e : g us μ with
    | ok u μ' =>
      rw [e] at hp
      obtain ⟨h1, hp⟩ := hp.guard
      obtain ⟨h2, h3⟩ := Bool.and_eq_true_iff.mp h1
      intro v G' α' H' ok' st rv
      obtain ⟨β, rfl⟩ := st.a
      exact hp v G' α H' (ok'.cut h3) st.cut (below_rep h2 rv)
    | err x μ' =>
      rw [e] at hp
      obtain ⟨h3, hp⟩ := hp.guard
      intro dd G' α' H' ok' st xr
      obtain ⟨β, rfl⟩ := st.a
      exact hp dd G' α H' (ok'.cut h3) st.cut xr
    | stuck =>
      rw [e] at hp
      exact hp⟩
/-! ### readings that hang on the function alone -/
def tU (K : PySem.W.Frag) (W : WX) (f : DEnv → Store → Out U) : TE := fun σ H Q => ∃ G α δ μ, Ok K G α H μ ∧ RepE K G α σ δ ∧ Pg (ρU K) K G α H σ (f δ μ) Q W
def tUB (K : PySem.W.Frag) (W : WX) (f : DEnv → Store → Out Bool) : TT := fun σ H Q => ∃ G α δ μ, Ok K G α H μ ∧ RepE K G α σ δ ∧ Pg ρB K G α H σ (f δ μ) Q W
theorem DE.canon {X : Cx} {W : WX} {e : Expr} {f : DEnv → Store → Out U} (h : DE X W e f) : PE X e (tU X.K W f) := by
  obtain ⟨t, p, j⟩ := h
  exact ⟨fun pins s σ H Q I ⟨G, α, δ, μ, ok, re, hp⟩ => p.run pins s σ H Q I (j G α H σ δ μ Q ok re hp)⟩
theorem DT.canon {X : Cx} {W : WX} {e : Expr} {f : DEnv → Store → Out Bool} (h : DT X W e f) : PT X e (tUB X.K W f) := by
  obtain ⟨t, p, j⟩ := h
  exact ⟨fun pins s σ H Q I ⟨G, α, δ, μ, ok, re, hp⟩ => p.run pins s σ H Q I (j G α H σ δ μ Q ok re hp)⟩
/-! ### comprehensions -/
def wipeD (δ : DEnv) : List Nat → DEnv
  | [] => δ
  | v :: vs => (wipeD δ vs).set v none
theorem wipe_rep {K : PySem.W.Frag} {G : Hp} {α : List Addr} {σ : St} {δ : DEnv} (r : RepE K G α σ δ) : ∀ vs : List Nat, RepE K G α (wipe σ vs) (wipeD δ vs)
  | [] => r
  | v :: vs => (wipe_rep r vs).unset v none
theorem wipe_get (σ : St) (j : Nat) : ∀ vs : List Nat, (wipe σ vs)[j]? = if j ∈ vs then (σ[j]?).map (fun _ => none) else σ[j]?
  | [] => by simp [wipe]
  | v :: vs => by
    unfold wipe
    have ih := wipe_get σ j vs
    by_cases h : v = j
    · subst h
      by_cases hl : v < (wipe σ vs).length
      · rw [List.getElem?_set_self hl]
        rw [wipe_length] at hl
        simp [hl]
      · rw [List.getElem?_eq_none (by rw [List.length_set]; omega)]
        rw [wipe_length] at hl
        rw [if_pos (by simp), List.getElem?_eq_none (by omega)]
        rfl
    · rw [List.getElem?_set_ne h, ih]
      have h' : ¬ j = v := fun e => h e.symm
      simp [h']
theorem wipe_set {σ : St} {i : Nat} {o : Option V} {vs : List Nat} (h : i ∈ vs) : wipe (σ.set i o) vs = wipe σ vs := by
  apply List.ext_getElem?
  intro j
  rw [wipe_get, wipe_get]
  by_cases hj : j ∈ vs
  · rw [if_pos hj, if_pos hj]
    by_cases e : i = j
    · subst e
      by_cases hl : i < σ.length
      · rw [List.getElem?_set_self hl, List.getElem?_eq_getElem hl]
        rfl
      · rw [List.getElem?_eq_none (by rw [List.length_set]; omega), List.getElem?_eq_none (by omega)]
    · rw [List.getElem?_set_ne e]
  · rw [if_neg hj, if_neg hj]
    have e : i ≠ j := fun z => hj (z ▸ h)
    rw [List.getElem?_set_ne e]
/-- a comprehension's target: names of its own -/
def tGv (K : PySem.W.Frag) (vs : List Nat) (g : U → DEnv → Option DEnv) : TG := fun v σ H Q => ∃ G α δ δ' μ u, Ok K G α H μ ∧ RepE K G α σ δ ∧ RepU K G α v u ∧ g u δ = some δ' ∧ ∀ σ', RepE K G α σ' δ' → wipe σ' vs = wipe σ vs → Q σ' H
def DGv (X : Cx) (vs : List Nat) (tg : Expr) (g : U → DEnv → Option DEnv) : Prop := PG X tg (tGv X.K vs g)
theorem dgv_name {X : Cx} {vs : List Nat} {i : Nat} {x : Str} {pos : Pos} (hm : i ∈ vs) (hN : X.N.Nodup) (hi : X.N[i]? = some x) (hx : Loc X.env.scope x) (hf : X.fn x = true ∨ X.env.scope.names.lookup x = some .local := by first | exact .inl rfl | exact .inr rfl | assumption) : DGv X vs (.Name x pos) (gN i) := by
  have p := pg_name (pos := pos) hN hi hx hf
  exact ⟨fun pins s σ H v u Q I r ⟨G, α, δ, δ', μ, w, ok, re, rv, e, q⟩ => p.run pins s σ H v u Q I r (by
    cases e
    exact q _ (re.set i rv) (wipe_set hm))⟩
def noErr {β : Type} : Out β → Out β
  | .err _ _ => .stuck
  | r => r
theorem noErr_ok {β : Type} {r : Out β} {b : β} {μ : Store} (h : noErr r = .ok b μ) : r = .ok b μ := by
  cases r with
  | ok b μ => exact h
  | err x μ => cases h
  | stuck => cases h
abbrev W0 : WX := fun _ _ _ _ => False
def lcL (g : U → DEnv → Option DEnv) (tt : DEnv → Store → Out Bool) (te : DEnv → Store → Out U) (δ : DEnv) : List U → List U → Store → Out (List U)
  | [], acc, μ => .ok acc μ
  | u :: r, acc, μ => match g u δ with
    | none => .stuck
    | some δ1 => (noErr (tt δ1 μ)).bind fun b μ1 => match b with
      | true => (noErr (te δ1 μ1)).bind fun y μ2 => guard (fits acc.length) (lcL g tt te δ r (acc ++ [y]) μ2)
      | false => lcL g tt te δ r acc μ1
theorem Pg.noErr {γ β γ' β' : Type} {ρ : Hp → List Addr → γ → β → Prop} {ρ' : Hp → List Addr → γ' → β' → Prop} {K : PySem.W.Frag} {G H : Hp} {α : List Addr} {σ σ' : St} {W : WX} {r : Out β} {k : β → Store → Out β'} {Q : γ' → Hp → Prop} {R : γ → Hp → Prop} (h : Pg ρ' K G α H σ ((HB.noErr r).bind k) Q W)
    (hk : ∀ b μ1 v G1 α1 H1, Ok K G1 α1 H1 μ1 → Stp G α H G1 α1 H1 → ρ G1 α1 v b → Pg ρ' K G1 α1 H1 σ (k b μ1) Q W → R v H1) : Pg ρ K G α H σ' r R W0 := by
  cases r with
  | ok b μ' => exact fun v G' α' H' ok st rv => hk b μ' v G' α' H' ok st rv (Pg.step st h)
  | err x μ' => exact h.elim
  | stuck => exact h
theorem Ok.poke {K : PySem.W.Frag} {G H : Hp} {α : List Addr} {μ : Store} {p : Addr} {o : HO} (ok : Ok K G α H μ) (hp : p ∉ α) (hg : G p = none) : Ok K G α (upd H p o) μ := by
  refine ⟨fun a o' e => ?_, ok.len, ok.nd, fun n a c h1 h2 => ?_⟩
  · have ne : a ≠ p := fun z => by rw [z, hg] at e; cases e
    rw [upd_ne ne]
    exact ok.ex a o' e
  · have ne : a ≠ p := fun z => hp (z ▸ List.mem_of_getElem? h1)
    have k := ok.cell n a c h1 h2
    cases c with
    | lst us =>
      obtain ⟨k1, xs, k2, k3⟩ := k
      exact ⟨k1, xs, by rw [upd_ne ne]; exact k2, k3⟩
    | ins c fs =>
      obtain ⟨k1, dx, vs, k2, k3⟩ := k
      exact ⟨k1, dx, vs, by rw [upd_ne ne]; exact k2, k3⟩
    | dead =>
      obtain ⟨o1, k⟩ := k
      exact ⟨o1, by rw [upd_ne ne]; exact k⟩
/-- where a comprehension stands, behind i items -/
structure LcI (K : PySem.W.Frag) (W : WX) (G : Hp) (α : List Addr) (H : Hp) (σ : St) (Dl : Addr) (rest : List U → List U → Store → Out (List U)) (fin : List U → Store → Out U) (Q : VK) (us : List U) (i : Nat) (H' : Hp) : Prop where
  ex : ∃ G' α' μ' acc xs, Ok K G' α' H' μ' ∧ Stp G α H G' α' H' ∧ G' Dl = none ∧ Dl ∉ α' ∧ H' Dl = some (.lst xs) ∧ RepUL K G' α' xs acc ∧ Pg (ρU K) K G α H σ ((rest (us.drop i) acc μ').bind fin) Q W
def eLc (g : U → DEnv → Option DEnv) (fi : DEnv → Store → Out (List U)) (tt : DEnv → Store → Out Bool) (te : DEnv → Store → Out U) (vs : List Nat) (fin : List U → Store → Out U) : DEnv → Store → Out U := fun δ μ => (fi δ μ).bind fun us μ1 => (lcL g tt te (wipeD δ vs) us [] μ1).bind fin
/-- the list is data; the list will be changed -/
def finD (us : List U) (μ : Store) : Out U := match allD us with
  | some ds => .ok (.d (.lst ds)) μ
  | none => .stuck
def finC (us : List U) (μ : Store) : Out U := .ok (.own μ.length) (μ ++ [.lst us])
/-- what a finished list may become -/
def FinOk (K : PySem.W.Frag) (W : WX) (fin : List U → Store → Out U) : Prop := ∀ G α H σ G' α' H' μ us xs Dl Q, Stp G α H G' α' H' → H Dl = none → Ok K G' α' H' μ → G' Dl = none → Dl ∉ α' → H' Dl = some (.lst xs) → RepUL K G' α' xs us → Pg (ρU K) K G α H σ (fin us μ) Q W → Q (.ref Dl) H'
theorem finD_ok {K : PySem.W.Frag} {W : WX} : FinOk K W finD := fun G α H σ G' α' H' μ us xs Dl Q st hn ok hg ha hx r hp => by
  unfold finD at hp
  split at hp
  · rename_i ds e
    have eg : Ex G' (upd G' Dl (.lst xs)) := Ex.new hg
    refine hp (.ref Dl) (upd G' Dl (.lst xs)) α' H' ⟨fun a o e => ?_, ok.len, ok.nd, fun n a c h1 h2 => ?_⟩ ⟨st.g.trans eg, st.a, st.h, st.f, fun b o nb e g => ?_⟩ (show Rep K _ _ _ from .lst upd_same (RepL.mono eg (allD_rep r e)))
    · by_cases hb : a = Dl
      · subst hb
        rw [upd_same] at e
        cases e
        exact hx
      · rw [upd_ne hb] at e
        exact ok.ex a o e
    · have ne : a ≠ Dl := fun z => ha (z ▸ List.mem_of_getElem? h1)
      have k := ok.cell n a c h1 h2
      cases c with
      | lst us =>
        obtain ⟨k1, ys, k2, k3⟩ := k
        exact ⟨by rw [upd_ne ne]; exact k1, ys, k2, Paired.mapP k3 fun _ _ r => by simpa using RepU.mono (β := []) eg r⟩
      | ins c fs =>
        obtain ⟨k1, dx, vs, k2, k3⟩ := k
        exact ⟨by rw [upd_ne ne]; exact k1, dx, vs, k2, Paired.mapP k3 fun _ _ r => ⟨r.1, by simpa using RepU.mono (β := []) eg r.2⟩⟩
      | dead => exact k
    · rw [upd_ne (ne_of_none e hn)]
      exact st.n b o nb e g
  · exact hp.elim
theorem Ok.adopt {K : PySem.W.Frag} {G H : Hp} {α : List Addr} {μ : Store} {p : Addr} {c : Cell} (ok : Ok K G α H μ) (np : p ∉ α) (hc : CellOk K G (α ++ [p]) H p c) : Ok K G (α ++ [p]) H (μ ++ [c]) := by
  refine ⟨ok.ex, by rw [List.length_append, List.length_append, ok.len]; rfl, ?_, fun n a c' h1 h2 => ?_⟩
  · rw [List.nodup_append]
    refine ⟨ok.nd, by simp, fun a ha b hb => ?_⟩
    simp at hb
    subst hb
    intro e
    subst e
    exact np ha
  · by_cases hn : n < α.length
    · rw [List.getElem?_append_left hn] at h1
      rw [List.getElem?_append_left (by rw [← ok.len]; exact hn)] at h2
      have k := ok.cell n a c' h1 h2
      cases c' with
      | lst us =>
        obtain ⟨k1, xs, k2, k3⟩ := k
        exact ⟨k1, xs, k2, Paired.mapP k3 fun _ _ r => RepU.mono (Ex.refl G) r⟩
      | ins c fs =>
        obtain ⟨k1, dx, vs, k2, k3⟩ := k
        exact ⟨k1, dx, vs, k2, Paired.mapP k3 fun _ _ r => ⟨r.1, RepU.mono (Ex.refl G) r.2⟩⟩
      | dead => exact k
    · rw [List.getElem?_append_right (by omega)] at h1
      rw [List.getElem?_append_right (by rw [← ok.len]; omega)] at h2
      have e0 : n - α.length = 0 := by
        cases q : n - α.length with
        | zero => rfl
        | succ m =>
          rw [q] at h1
          simp at h1
      rw [e0] at h1
      rw [← ok.len, e0] at h2
      simp at h1 h2
      subst h1 h2
      exact hc
theorem finC_ok {K : PySem.W.Frag} {W : WX} : FinOk K W finC := fun G α H σ G' α' H' μ us xs Dl Q st hn ok hg ha hx r hp => by
  refine hp (.ref Dl) G' (α' ++ [Dl]) H' (ok.adopt ha ⟨hg, xs, hx, r.mono (Ex.refl G')⟩) ⟨st.g, ?_, st.h, fun b h1 h2 => ?_, st.n⟩ ⟨Dl, by rw [List.getElem?_append_right (by rw [ok.len]; exact Nat.le_refl _), ok.len]; simp, rfl⟩
  · obtain ⟨β, e⟩ := st.a
    exact ⟨β ++ [Dl], by rw [e, List.append_assoc]⟩
  · rw [List.mem_append] at h1
    rcases h1 with h1 | h1
    · exact st.f b h1 h2
    · have : b = Dl := by simpa using h1
      rw [this]
      exact hn
section
variable {X : Cx} {W : WX}
def DTs (X : Cx) (ifs : List Expr) (f : DEnv → Store → Out Bool) : Prop := PTs X ifs (tUB X.K W0 f)
def tYesD : DEnv → Store → Out Bool := fun _ μ => .ok true μ
theorem dts_nil : DTs X [] tYesD := ⟨fun pins s σ H Q I ⟨G, α, δ, μ, ok, re, hp⟩ => pts_nil.run pins s σ H Q I (Pg.now (ρ := ρB) ok rfl hp)⟩
theorem dts_one {c : Expr} {f : DEnv → Store → Out Bool} (h : DT X W0 c f) : DTs X [c] f := pts_one h.canon
theorem jlc {g : U → DEnv → Option DEnv} {fi : DEnv → Store → Out (List U)} {tt : DEnv → Store → Out Bool} {te : DEnv → Store → Out U} {vs : List Nat} {fin : List U → Store → Out U} {wi : TI} (ji : J (ρI X.K) X.K W wi fi) (hf : FinOk X.K W fin) :
    J (ρU X.K) X.K W (tLc wi (tGv X.K vs g) (tUB X.K W0 tt) (tU X.K W0 te) vs) (eLc g fi tt te vs fin) := fun G α H σ δ μ Q ok re hp => by
  refine ji G α H σ δ μ _ ok re (hp.bind fun us μ1 Jt G1 α1 H1 ok1 s1 wk hp1 => ?_)
  intro Dl hD
  have re1 := re.step s1
  let I := LcI X.K W G1 α1 H1 σ Dl (lcL g tt te (wipeD δ vs)) fin Q us
  refine ⟨fun i m H' => m = us.length - i ∧ i ≤ us.length ∧ I i H', ⟨us.length, by simp, Nat.zero_le _, ?_⟩, ?_⟩
  · obtain ⟨oka, sta⟩ := ok1.aside (o := .lst []) hD
    exact ⟨G1, α1, μ1, [], [], oka, sta, Evl.fresh_back ok1.ex hD, ok1.free hD, upd_same, .nil, hp1⟩
  · rintro i m H' ⟨rfl, hi, ⟨G2, α2, μ2, acc, xs, ok2, st2, g2, a2, x2, r2, hp2⟩⟩
    obtain ⟨w1, w2⟩ := wk G2 α2 H' μ2 i ok2 st2.g st2.a
    by_cases hlt : i < us.length
    · have hu : us[i]? = some us[i] := List.getElem?_eq_getElem hlt
      rw [drop_at hu] at hp2
      obtain ⟨w3, w4⟩ := w1 _ hu
      refine .inr ⟨w3, I (i + 1), fun H3 p3 => ⟨us.length - (i + 1), by omega, rfl, hlt, p3⟩, fun x H3 y => ?_⟩
      obtain ⟨G3, ok3, st3, rv⟩ := w4 x H3 y
      have x3 : H3 Dl = some (.lst xs) := st3.h Dl _ a2 x2
      have g3 : G3 Dl = none := st3.n Dl _ a2 x2 g2
      unfold lcL at hp2
      split at hp2
      · exact hp2.elim
      · rename_i δ1 eg
        refine ⟨G3, α2, wipeD δ vs, δ1, μ2, _, ok3, wipe_rep ((re1.step st2).step st3) vs, rv, eg, fun σ' re' hw => ⟨?_, ?_⟩⟩
        · rw [hw]
          apply List.ext_getElem?
          intro j
          rw [wipe_get, wipe_get]
          by_cases hj : j ∈ vs
          · rw [if_pos hj, if_pos hj]
            cases σ[j]? <;> rfl
          · rw [if_neg hj, if_neg hj]
        · cases et : HB.noErr (tt δ1 μ2) with
          | err x m =>
            cases eq : tt δ1 μ2 with
            | ok b m =>
              rw [eq] at et
              cases et
            | err x m =>
              rw [eq] at et
              cases et
            | stuck =>
              rw [eq] at et
              cases et
          | stuck =>
            rw [et] at hp2
            exact hp2.elim
          | ok b μ4 =>
            rw [et] at hp2
            refine ⟨G3, α2, δ1, μ2, ok3, re', ?_⟩
            rw [noErr_ok et]
            intro vb G4 α4 H4 ok4 st4 rb
            have x4 : H4 Dl = some (.lst xs) := st4.h Dl _ a2 x3
            have g4 : G4 Dl = none := st4.n Dl _ a2 x3 g3
            have a4 : Dl ∉ α4 := fun h => by
              have := st4.f Dl h a2
              rw [x3] at this
              cases this
            have eb : vb = b := rb
            subst eb
            have r4 := st4.repL (st3.repL r2)
            cases vb with
            | false => exact iteF ⟨G4, α4, μ4, acc, xs, ok4, (st2.trans st3).trans st4, g4, a4, x4, r4, hp2⟩
            | true =>
              refine iteT ?_
              cases ee : HB.noErr (te δ1 μ4) with
              | err x m =>
                cases eq : te δ1 μ4 with
                | ok b m =>
                  rw [eq] at ee
                  cases ee
                | err x m =>
                  rw [eq] at ee
                  cases ee
                | stuck =>
                  rw [eq] at ee
                  cases ee
              | stuck =>
                have hp3 : Pg (ρU X.K) X.K G1 α1 H1 σ (((HB.noErr (te δ1 μ4)).bind fun y μ2 => guard (fits acc.length) (lcL g tt te (wipeD δ vs) (us.drop (i + 1)) (acc ++ [y]) μ2)).bind fin) Q W := hp2
                rw [ee] at hp3
                exact hp3.elim
              | ok y μ5 =>
                have hp3 : Pg (ρU X.K) X.K G1 α1 H1 σ (((HB.noErr (te δ1 μ4)).bind fun y μ2 => guard (fits acc.length) (lcL g tt te (wipeD δ vs) (us.drop (i + 1)) (acc ++ [y]) μ2)).bind fin) Q W := hp2
                rw [ee] at hp3
                have hg : ∀ {β γ : Type} (b : Bool) (r : Out β) (k : β → Store → Out γ), (guard b r).bind k = guard b (r.bind k) := fun b r k => by cases b <;> rfl
                have hp4 : Pg (ρU X.K) X.K G1 α1 H1 σ ((guard (fits acc.length) (lcL g tt te (wipeD δ vs) (us.drop (i + 1)) (acc ++ [y]) μ5)).bind fin) Q W := hp3
                rw [hg] at hp4
                obtain ⟨h1, hp5⟩ := hp4.guard
                refine ⟨G4, α4, δ1, μ4, ok4, re'.step st4, ?_⟩
                rw [noErr_ok ee]
                intro vy G5 α5 H5 ok5 st5 ry
                have x5 : H5 Dl = some (.lst xs) := st5.h Dl _ a4 x4
                have g5 : G5 Dl = none := st5.n Dl _ a4 x4 g4
                have a5 : Dl ∉ α5 := fun h => by
                  have := st5.f Dl h a4
                  rw [x4] at this
                  cases this
                have r5 := st5.repL r4
                have stA := ((st2.trans st3).trans st4).trans st5
                refine ⟨xs, x5, by rw [r5.length]; exact fits_lt h1, G5, α5, μ5, acc ++ [y], xs ++ [vy], ok5.poke a5 g5, ⟨stA.g, stA.a, fun b o nb e => ?_, stA.f, stA.n⟩, g5, a5, upd_same, r5.append (.cons ry .nil), hp5⟩
                rw [upd_ne (ne_of_none e hD)]
                exact stA.h b o nb e
    · have e : i = us.length := by omega
      subst e
      rw [List.drop_length] at hp2
      exact .inl ⟨w2 (Nat.le_refl _), hf G1 α1 H1 σ G2 α2 H' μ2 acc xs Dl Q st2 hD ok2 g2 a2 x2 r2 hp2⟩
theorem de_lc {elt tg iter : Expr} {ifs : List Expr} {scope : Scope} {own : List (Str × Nat)} {pos : Pos} {g : U → DEnv → Option DEnv} {fi : DEnv → Store → Out (List U)} {tt : DEnv → Store → Out Bool} {te : DEnv → Store → Out U} {fin : List U → Store → Out U} (hf : FinOk X.K W fin) (hc : X.calm = true) (hN : X.N.Nodup) (hi : DI X W tg iter fi) (ok : BlkOk X.N X.env.scope scope own)
    (hg : ∀ (s : Shared) (H : Hp) (C : Addr) (cl : List (Str × Addr)) (fp : List Addr), DGv (X.blk s H scope (compEnvC scope cl C X.env) fp) (own.map (·.2)) tg g) (ht : ∀ (s : Shared) (H : Hp) (C : Addr) (cl : List (Str × Addr)) (fp : List Addr), DTs (X.blk s H scope (compEnvC scope cl C X.env) fp) ifs tt)
    (he : ∀ (s : Shared) (H : Hp) (C : Addr) (cl : List (Str × Addr)) (fp : List Addr), DE (X.blk s H scope (compEnvC scope cl C X.env) fp) W0 elt te) (hs : ∀ x, foldedSetIterable iter X.env x = pure x := by intro _; rfl) :
    DE X W (.ListComp elt [⟨tg, iter, ifs, 0⟩] scope pos) (eLc g fi tt te (own.map (·.2)) fin) := by
  obtain ⟨wi, pi, ji⟩ := hi
  exact ⟨_, pe_lc (g := tGv X.K (List.map (fun (x : Str × Nat) => x.2) own) g) (tt := tUB X.K W0 tt) (te := tU X.K W0 te) hc hN pi ok (fun s H C cl fp => (hg s H C cl fp : PG _ _ _)) ht (fun s H C cl fp => (he s H C cl fp).canon) hs, jlc ji hf⟩
theorem ds_setLc {i : Nat} {y : Str} {py : Pos} {elt tg iter : Expr} {ifs : List Expr} {scope : Scope} {own : List (Str × Nat)} {pos spos : Pos} {g : U → DEnv → Option DEnv} {fi : DEnv → Store → Out (List U)} {tt : DEnv → Store → Out Bool} {te : DEnv → Store → Out U} {fin : List U → Store → Out U} (hf : FinOk X.K W fin) (hc : X.calm = true) (hN : X.N.Nodup) (hy : X.N[i]? = some y) (hyl : X.env.scope.names.lookup y = some .local)
    (hsw : swapsWith (.ListComp elt [⟨tg, iter, ifs, 0⟩] scope pos) (some (.Name y py)) spos.line X.env = pure true) (hi : DI X W tg iter fi) (ok : BlkOk X.N X.env.scope scope own)
    (hg : ∀ (s : Shared) (H : Hp) (C : Addr) (cl : List (Str × Addr)) (fp : List Addr), DGv (X.blk s H scope (compEnvC scope cl C X.env) fp) (own.map (·.2)) tg g) (ht : ∀ (s : Shared) (H : Hp) (C : Addr) (cl : List (Str × Addr)) (fp : List Addr), DTs (X.blk s H scope (compEnvC scope cl C X.env) fp) ifs tt)
    (he : ∀ (s : Shared) (H : Hp) (C : Addr) (cl : List (Str × Addr)) (fp : List Addr), DE (X.blk s H scope (compEnvC scope cl C X.env) fp) W0 elt te) (hs : ∀ x, foldedSetIterable iter X.env x = pure x := by intro _; rfl) :
    DS X W (.Assign [.Name y py] (.ListComp elt [⟨tg, iter, ifs, 0⟩] scope pos) spos) (sSet i (eLc g fi tt te (own.map (·.2)) fin)) := by
  obtain ⟨wi, pi, ji⟩ := hi
  refine ⟨_, ps_setLc (g := tGv X.K (List.map (fun (x : Str × Nat) => x.2) own) g) (tt := tUB X.K W0 tt) (te := tU X.K W0 te) hc hN hy hyl hsw pi ok (fun s H C cl fp => (hg s H C cl fp : PG _ _ _)) ht (fun s H C cl fp => (he s H C cl fp).canon) hs, fun G α H σ δ μ N ok re h => ?_⟩
  exact jlc ji hf G α H σ δ μ _ ok re (PgS.bind re h fun u μ1 v G1 α1 H1 ok1 s1 r1 h1 => h1 _ G1 α1 H1 ok1 (Stp.refl _ _ _) ((re.step s1).set i r1))
end
end HB
end
section
set_option Elab.async false
set_option linter.all false
set_option maxRecDepth 100000
set_option maxHeartbeats 4000000
namespace HB
open PySem PySem.Spec L2
open PyProof.Rows hiding St
open Evl (Ex ex_t ex_l ex_rd)
section
variable {X : Cx} {W : WX}
/-! ### -a -/
def negU : U → Store → Out U
  | .d (.int i), μ => .ok (.d (.int (-i))) μ
  | _, _ => .stuck
def eNeg (f : DEnv → Store → Out U) : DEnv → Store → Out U := fun δ μ => (f δ μ).bind negU
theorem de_neg {a : Expr} {f : DEnv → Store → Out U} {pos : Pos} (ha : DE X W a f) : DE X W (.UnaryOp .USub a pos) (eNeg f) := by
  obtain ⟨t, p, j⟩ := ha
  refine ⟨_, pe_un un_neg p, fun G α H σ δ μ Q ok re hp => ?_⟩
  refine j G α H σ δ μ _ ok re (hp.bind fun u μ1 v G1 α1 H1 ok1 s1 r1 hp1 => ?_)
  unfold negU at hp1
  split at hp1
  · cases r1
    exact ⟨_, rfl, Pg.nowD ok1 .int hp1⟩
  · exact hp1.elim
/-! ### slices -/
def oNone : DEnv → Store → Out (Option Int) := fun _ μ => .ok none μ
def oSome (f : DEnv → Store → Out U) : DEnv → Store → Out (Option Int) := fun δ μ => (f δ μ).bind fun u μ1 => match u with
  | .d (.int i) => .ok (some i) μ1
  | _ => .stuck
abbrev ρO : Hp → List Addr → Option Int → Option Int → Prop := fun _ _ a b => a = b
def DO (X : Cx) (W : WX) (e : Option Expr) (f : DEnv → Store → Out (Option Int)) : Prop := ∃ t, PO X e t ∧ J ρO X.K W t f
theorem do_none : DO X W none oNone := ⟨_, po_none, fun G α H σ δ μ Q ok re hp => Pg.now (ρ := ρO) ok rfl hp⟩
theorem do_some {e : Expr} {f : DEnv → Store → Out U} (h : DE X W e f) : DO X W (some e) (oSome f) := by
  obtain ⟨t, p, j⟩ := h
  refine ⟨_, po_some p, fun G α H σ δ μ Q ok re hp => ?_⟩
  refine j G α H σ δ μ _ ok re (hp.bind fun u μ1 v G1 α1 H1 ok1 s1 r1 hp1 => ?_)
  split at hp1
  · cases r1
    exact ⟨_, rfl, Pg.now (ρ := ρO) ok1 rfl hp1⟩
  · exact hp1.elim
def cutL {β : Type} (xs : List β) (lo hi : Option Int) : List β := (xs.drop (HT.sIx xs.length 0 lo)).take (HT.sIx xs.length xs.length hi - HT.sIx xs.length 0 lo)
def slU (u : U) (lo hi : Option Int) (μ : Store) : Out U := match u with
  | .d (.str z) => guard (fits z.length) (.ok (.d (.str (cutS z lo hi))) μ)
  | .d (.tup ds) => guard (!decide (HT.sIx ds.length 0 lo = 0 ∧ HT.sIx ds.length ds.length hi = ds.length)) (.ok (.d (.tup (cutL ds lo hi))) μ)
  | .d (.fl ds) => .ok (.d (.lst (cutL ds lo hi))) μ
  | u => match lsU μ u with
    | some us => (match allD (cutL us lo hi) with
      | some ds => .ok (.d (.lst ds)) μ
      | none => .stuck)
    | none => .stuck
def eSl (f : DEnv → Store → Out U) (l h : DEnv → Store → Out (Option Int)) : DEnv → Store → Out U := fun δ μ => (f δ μ).bind fun u μ1 => (l δ μ1).bind fun lo μ2 => (h δ μ2).bind fun hi μ3 => slU u lo hi μ3
theorem cut_rep {K : PySem.W.Frag} {G : Hp} {α : List Addr} {xs : List V} {us : List U} (r : RepUL K G α xs us) (lo hi : Option Int) : RepUL K G α (cutV xs lo hi) (cutL us lo hi) := by
  unfold cutV cutL
  rw [r.length]
  exact (r.drop _).take _
theorem cut_repL {K : PySem.W.Frag} {G : Hp} {xs : List V} {us : List D} (r : RepL K G xs us) (lo hi : Option Int) : RepL K G (cutV xs lo hi) (cutL us lo hi) := by
  unfold cutV cutL
  rw [r.length]
  exact (r.drop _).take _
theorem de_sl {e : Expr} {lo hi : Option Expr} {f : DEnv → Store → Out U} {l h : DEnv → Store → Out (Option Int)} {p2 pos : Pos} (he : DE X W e f) (hl : DO X W lo l) (hh : DO X W hi h) : DE X W (.Subscript e (.Slice lo hi none p2) pos) (eSl f l h) := by
  obtain ⟨t, p, j⟩ := he
  obtain ⟨tl, pl, jl⟩ := hl
  obtain ⟨th, ph, jh⟩ := hh
  refine ⟨_, pe_slice (sl_list.or (sl_tup.or sl_str)) p pl ph, fun G α H σ δ μ Q ok re hp => ?_⟩
  refine j G α H σ δ μ _ ok re (hp.bind fun u μ1 v G1 α1 H1 ok1 s1 r1 hp1 => ?_)
  refine jl G1 α1 H1 σ δ μ1 _ ok1 (re.step s1) (hp1.bind fun lo μ2 lo' G2 α2 H2 ok2 s2 r2 hp2 => ?_)
  refine jh G2 α2 H2 σ δ μ2 _ ok2 ((re.step s1).step s2) (hp2.bind fun hi μ3 hi' G3 α3 H3 ok3 s3 r3 hp3 => ?_)
  have e1 : lo' = lo := r2
  have e2 : hi' = hi := r3
  subst e1 e2
  have rv := s3.rep (s2.rep r1)
  unfold slU at hp3
  split at hp3
  · obtain ⟨h1, hp3⟩ := hp3.guard
    cases rv
    exact .inr (.inr ⟨_, rfl, fits_le h1, Pg.nowD ok3 .str hp3⟩)
  · obtain ⟨h1, hp3⟩ := hp3.guard
    cases rv with
    | tup h r =>
      refine .inr (.inl ⟨_, _, rfl, ex_t ok3.ex h, ?_, fun p hn => new_tup ok3 (cut_repL r _ _) hp3 hn⟩)
      rw [r.length]
      have h2 := Bool.not_eq_true' _ ▸ h1
      exact of_decide_eq_false h2
  · cases rv with
    | fl h r => exact .inl ⟨_, _, rfl, ex_l ok3.ex h, fun p hn => new_lst ok3 (cut_repL r _ _) hp3 hn⟩
  · split at hp3
    · rename_i us e
      obtain ⟨a, xs, rfl, ha, ra⟩ := lsU_at ok3 rv e
      split at hp3
      · rename_i ds e2
        exact .inl ⟨a, xs, rfl, SqL.of ha, fun p hn => new_lst ok3 (allD_rep (cut_rep ra _ _) e2) hp3 hn⟩
      · exact hp3.elim
    · exact hp3.elim
theorem jchain {r r' : R2} {h h' : U → U → Store → Out U} {ta tb tc : TE} {f g k : DEnv → Store → Out U} (h2 : ∀ G α H σ μ x y ux uy Q, Ok X.K G α H μ → RepU X.K G α x ux → RepU X.K G α y uy → Pg (ρU X.K) X.K G α H σ (h ux uy μ) Q W → r x y H Q)
    (h2' : ∀ G α H σ μ x y ux uy Q, Ok X.K G α H μ → RepU X.K G α x ux → RepU X.K G α y uy → Pg (ρU X.K) X.K G α H σ (h' ux uy μ) Q W → r' x y H Q) (ja : J (ρU X.K) X.K W ta f) (jb : J (ρU X.K) X.K W tb g) (jc : J (ρU X.K) X.K W tc k) : J (ρU X.K) X.K W (tChain r r' ta tb tc) (eChain h h' f g k) := fun G α H σ δ μ Q ok re hp => by
  refine ja G α H σ δ μ _ ok re (hp.bind fun u μ1 v G1 α1 H1 ok1 s1 r1 hp1 => ?_)
  refine jb G1 α1 H1 σ δ μ1 _ ok1 (re.step s1) (hp1.bind fun w μ2 v2 G2 α2 H2 ok2 s2 r2 hp2 => ?_)
  refine h2 G2 α2 H2 σ μ2 v v2 u w _ ok2 (s2.rep r1) r2 (hp2.bind fun z μ3 v3 G3 α3 H3 ok3 s3 r3 hp3 => ?_)
  split at hp3
  · cases r3
    refine ⟨true, rfl, iteT ?_⟩
    refine jc G3 α3 H3 σ δ μ3 _ ok3 (((re.step s1).step s2).step s3) (hp3.bind fun y μ4 v4 G4 α4 H4 ok4 s4 r4 hp4 => ?_)
    exact h2' G4 α4 H4 σ μ4 v2 v4 w y _ ok4 (s4.rep (s3.rep r2)) r4 hp4
  · cases r3
    exact ⟨false, rfl, iteF (Pg.nowD ok3 .bl hp3)⟩
  · exact hp3.elim
/-! ### tests of chains -/
theorem dt_chain {op op' : CmpOp} {h h' : U → U → Store → Out U} {a b c : Expr} {f g k : DEnv → Store → Out U} {pos : Pos} (ho : OpB X W (compareOp op) h) (ho' : OpB X W (compareOp op') h') (ha : DE X W a f) (hb : DE X W b g) (hc : DE X W c k)
    (hm : lastMarks [op, op'] [b, c] = false := by with_unfolding_all rfl) : DT X W (.Compare a [op, op'] [b, c] pos) (tVal (eChain h h' f g k)) := by
  obtain ⟨r, h1, h2⟩ := ho
  obtain ⟨r', h1', h2'⟩ := ho'
  obtain ⟨ta, pa, ja⟩ := ha
  obtain ⟨tb, pb, jb⟩ := hb
  obtain ⟨tc, pc, jc⟩ := hc
  exact ⟨_, pt_chain h1 h1' pa pb pc hm, jval (jchain h2 h2' ja jb jc)⟩
/-! ### a text repeated -/
def mulS : U → U → Store → Out U
  | .d (.str x), .d (.int n), μ => guard (decide (0 ≤ n ∧ n ≤ 1000) && decide (x.length ≤ 1000)) (.ok (.d (.str (Txt.mul x n))) μ)
  | _, _, _ => .stuck
theorem ob_mulS : OpB X W (binaryOp .Mult) mulS := by
  refine ⟨fun x y H Q => ∃ z n, x = .str z ∧ y = .int n ∧ MulOk z n ∧ Q (.str (Txt.mul z n)) H, fun pins s σ H x y v u Q I rx ry hw => ?_, fun G α H σ μ x y ux uy Q ok rx ry hp => ?_⟩
  · obtain ⟨z, n, rfl, rfl, hm, q⟩ := hw
    obtain ⟨t, rfl⟩ := rx
    obtain ⟨t', rfl⟩ := ry
    exact SB.mul hm fun t1 k1 => ⟨.str _, H, I.tok _, ⟨_, rfl⟩, q⟩
  · unfold mulS at hp
    split at hp
    · rename_i z n
      cases rx
      cases ry
      obtain ⟨h1, hp⟩ := hp.guard
      simp only [Bool.and_eq_true, decide_eq_true_eq] at h1
      obtain ⟨⟨h2, h3⟩, h4⟩ := h1
      refine ⟨z, n, rfl, rfl, ⟨?_, fun h5 h6 => ?_, fun h5 h6 => ?_⟩, Pg.nowD ok .str hp⟩
      · simp
        omega
      · intro h7
        have h8 : (1000 : Int) ≤ (2 ^ 63 - 1) / n := by
          apply (Int.le_ediv_iff_mul_le (by omega)).mpr
          omega
        omega
      · have h7 : z.length * n.toNat ≤ 1000 * 1000 := Nat.mul_le_mul h4 (by omega)
        show decide (_ > sizeLine) = false
        rw [sizeLine_eq]
        exact decide_eq_false (by omega)
    · exact hp.elim
abbrev mulU : U → U → Store → Out U := orO mulI mulS
theorem ob_mulU : OpB X W (binaryOp .Mult) mulU := ob_mul.or ob_mulS
end
end HB
end
section
set_option Elab.async false
set_option linter.all false
set_option maxRecDepth 100000
set_option maxHeartbeats 4000000
namespace HB
open PySem PySem.Spec L2
open PyProof.Rows hiding St
open Evl (Ex ex_t ex_l ex_rd)
section
variable {X : Cx} {W : WX}
/-! ### repr of data -/
def shOk (p : PyData) : Bool := p.showable && p.canLay0 && decide (p.depth ≤ 64) && fits p.shown.length
def reprU : List U → Store → Out U
  | [u], μ => match deepU μ u with
    | some d => (match toPy d with
      | some p => guard (shOk p) (.ok (.d (.str p.shown)) μ)
      | none => .stuck)
    | none => .stuck
  | _, _ => .stuck
def rRepr (K : PySem.W.Frag) : List V → Hp → VK → Prop := fun vs H Q => ∃ v p, vs = [v] ∧ Dp K H v p ∧ p.showable = true ∧ p.canLay0 = true ∧ p.depth ≤ 64 ∧ p.shown.length ≤ sizeLine ∧ Q (.str p.shown) H
theorem call_reprD (hgd : X.A.guards = some []) (hu : X.A.units + 70 < cLine) : CallR X (.builtin "repr") (rRepr X.K) := by
  intro pins s σ H vs us Q I rv hw
  obtain ⟨v, p, rfl, hd, h1, h2, h3, h4, q⟩ := hw
  obtain ⟨u, rfl, ru⟩ := vals1 rv
  obtain ⟨as, hr⟩ := Dp.reads I p v u hd ru
  cases hd with
  | non =>
    cases ru
    exact PySem.P.repr_of_none ⟨.str _, H, I.tok _, ⟨_, rfl⟩, q⟩
  | bl b =>
    cases ru
    exact PySem.P.repr_of_bool ⟨.str _, H, I.tok _, ⟨_, rfl⟩, q⟩
  | int i =>
    obtain ⟨t, rfl⟩ := ru
    exact PySem.P.repr_of_int (by simpa [PyData.showable] using h1) ⟨.str _, H, I.tok _, ⟨_, rfl⟩, q⟩
  | str x =>
    obtain ⟨t, rfl⟩ := ru
    exact PySem.P.repr_of_str ⟨.str _, H, I.tok _, ⟨_, rfl⟩, q⟩ (by simpa only [PyData.shown] using h4)
  | lst ha hb =>
    cases ru
    exact repr_of_reads' hr h1 (PyData.noDict_hsm (PyData.hasDict_of_canLay _ h2)) hgd (by omega) (fun _ _ e => e) (fun h' u tk hk => ⟨.str _, H, I.kept (t' := tk) hk, ⟨_, rfl⟩, q⟩) h4
  | tup ha hb =>
    cases ru
    exact repr_of_reads' hr h1 (PyData.noDict_hsm (PyData.hasDict_of_canLay _ h2)) hgd (by omega) (fun _ _ e => e) (fun h' u tk hk => ⟨.str _, H, I.kept (t' := tk) hk, ⟨_, rfl⟩, q⟩) h4
theorem cb_repr (hgd : X.A.guards = some []) (hu : X.A.units + 70 < cLine) : CallB X W (.builtin "repr") reprU := by
  refine ⟨_, call_reprD hgd hu, fun G α H σ μ vs us Q ok r hp => ?_⟩
  unfold reprU at hp
  split at hp
  · obtain ⟨v, rfl, r1⟩ := one_rep r
    split at hp
    · rename_i d e
      split at hp
      · rename_i p e2
        obtain ⟨h1, hp⟩ := hp.guard
        unfold shOk at h1
        simp only [Bool.and_eq_true, decide_eq_true_eq] at h1
        obtain ⟨⟨⟨k1, k2⟩, k3⟩, k4⟩ := h1
        exact ⟨v, p, rfl, deepU_dp ok r1 e e2, k1, k2, k3, fits_le k4, Pg.nowD ok .str hp⟩
      · exact hp.elim
    · exact hp.elim
  · exact hp.elim
/-! ### raise X(e): X an own class over ValueError whose __init__ stores its argument -/
/-- what __init__ does to an exception that is being made -/
def spX (K : PySem.W.Frag) (C : Addr) (f : Str) : Sp := fun vs H Q _ => ∃ a v, vs = [.ref a, v] ∧ H a = some (exo a C none) ∧ ∀ dx, H dx = none → dx ≠ a → Q .non (upd (upd H dx (exd dx [(f, v)])) a (exo a C (some dx)))
/-- the class, its __init__ -/
structure XCls (P : Program) (w : World) (K : PySem.W.Frag) (mg : Str → Option Value) (base : Heap) (c f : Str) (fI : Addr) (fd : FuncData) : Prop where
  ex : OexC K (He.ga K c)
  iC : PySem.W.findIn K (.ref (He.ga K c)) "__init__" = some (some (.ref fI))
  tI : PySem.W.typeIn K (.ref fI) = some (.type "function")
  fn : FnOk P w K mg base CX0 1 fI fd ["self", f] (spX K (He.ga K c) f)
  bn : Binds K fd ["self", f] []
  mg : mg c = some (.ref (He.ga K c))
def sRaise (c f : Str) (fe : DEnv → Store → Out U) : DEnv → Store → OutS := sBind fe fun u δ μ => match u with
  | .d y => .err ⟨c, [f], [y]⟩ δ μ
  | _ => .stuck
theorem heap_xd {H : Hp} {a d : Addr} {o1 o2 o3 x : HO} (ha : H a = none) (hd : H d = none) (ne : d ≠ a) : upd (del (upd (upd (upd H a o1) d o2) a o3) a) d x = upd H d x := by
  funext b
  unfold upd del
  by_cases h1 : b = d
  · simp [h1]
  · by_cases h2 : b = a
    · subst h2
      simp [h1, ha]
    · simp [h1, h2]
theorem ds_raise {c f : Str} {fI : Addr} {fd : FuncData} {e : Expr} {fe : DEnv → Store → Out U} {p pos pos2 : Pos} {k : Nat} (T : XCls X.prog X.w X.K X.mg X.base c f fI fd) (hc : X.calm = true) (hr : Room (k + 2) X.A) (tk : Takes X W) (hg : Gl X c) (he : DE X W e fe)
    (hdb : (c == ("__debug__" : Str)) = false := by decide) (hst : starEach [e] X.env = (false, eval e X.env) :: starEach [] X.env := by rfl) (hpl : (backTo pos (starEach [] X.env)).any (·.1) = false := by rfl) :
    DS X W (.Raise (some (.Call (.Name c p) [e] [] pos)) none pos2) (sRaise c f fe) := by
  obtain ⟨t, pe, j⟩ := he
  refine ⟨_, ps_raise hc tk (pmk_oex T.ex T.iC T.tI T.fn (hr.mono (by omega)) T.bn .nil pass0 hg T.mg (pa_cons pe pa_nil hst) hdb hst hpl), fun G α H σ δ μ N ok re h => ?_⟩
  refine j G α H σ δ μ _ ok re (PgS.bind re h fun u μ1 v G1 α1 H1 ok1 s1 r1 h1 => ?_)
  refine ⟨by show 1 ≤ 1000; decide, fun a ha => ⟨a, v, rfl, upd_same, fun d hd ne => ⟨rfl, d, [(f, v)], upd_same, ?_, ?_, ?_⟩⟩⟩
  · rw [upd_ne ne, upd_same]
  · rw [upd_ne ne] at hd
    exact hd
  · have hd1 : H1 d = none := by
      rw [upd_ne ne] at hd
      exact hd
    split at h1
    · rename_i y
      obtain ⟨ok2, st2, eg⟩ := ok1.new (o := .xd [(f, v)]) hd1
      have q := h1 (some d) σ _ _ _ ok2 st2 ((re.step s1).step st2) ⟨d, [v], rfl, upd_same, rfl, .cons (Rep.mono eg r1) .nil⟩
      rw [heap_xd ha hd1 ne]
      exact q
    · exact h1.elim
/-- such an __init__ -/
theorem x_init {P : Program} {w : World} {K : PySem.W.Frag} {mg : Str → Option Value} {base : Heap} {c qual f : Str} {params : Arguments} {scope : Scope} {fI : Addr} {fd : FuncData} {p1 p2 p3 p4 : Pos} {dvs : List V} {kws : List (Str × V)}
    (F : FunD K "__init__" qual params [.Assign [.Attribute (.Name "self" p1) f p2] (.Name f p3) p4] scope dvs kws fI fd) (S : FnScope ["self", f] ["self", f] scope) (ex : OexC K (He.ga K c)) (no : PySem.W.findIn K (.ref (He.ga K c)) f = some none)
    (v0 : Vis scope "self") (v1 : Vis scope f) (hd : (f == ("__debug__" : Str)) = false) (hcd : (f == ("__classdict__" : Str)) = false)
    (hs : ∀ env : Env, swapsWith (.Name f p3) (some (.Attribute (.Name "self" p1) f p2)) p4.line env = pure false) : FnOk P w K mg base CX0 1 fI fd ["self", f] (spX K (He.ga K c) f) := by
  refine F.ok (k := 0) S (fun vs H Q E h => ?_) (fun cdv A outer s H vs Q E hr h => ?_)
  · obtain ⟨a, v, rfl, _⟩ := h
    rfl
  · obtain ⟨a, v, rfl, ha, k⟩ := h
    refine ⟨_, pss_one (ps_ost (pe_var (i := 0) rfl v0 (by decide) (by decide)) (pe_var (i := 1) rfl v1 hd hcd) (hs _)), ?_⟩
    exact ⟨v, rfl, _, rfl, a, _, rfl, ex, no, .inl ⟨ha, fun dx h1 h2 => k dx h1 h2⟩⟩
end
end HB
end
section
set_option Elab.async false
set_option linter.all false
set_option maxRecDepth 100000
set_option maxHeartbeats 4000000
namespace HB
open PySem PySem.Spec L2
open PyProof.Rows hiding St
/-! ### try with several clauses «except X as n» -/
abbrev Cl := Value × Nat × (Addr → Value → Option Addr → TS)
/-- behind a suite its name is gone -/
def gone (D : Ends) (i : Nat) : Ends := { nx := fun τ H => D.nx (τ.set i none) H, rt := D.rt, bk := fun τ H => D.bk (τ.set i none) H, ct := fun τ H => D.ct (τ.set i none) H }
def wN (K : PySem.W.Frag) (Wout : WX) (D : Ends) : List Cl → WX
  | [] => Wout
  | (c, i, ts) :: r => fun cls d τ H => ∃ b, PySem.W.exmOne K cls c = some b ∧ (b = true → ∀ a, H a = none → ts a cls d (gone D i) (τ.set i (some (.ref a))) H) ∧ (b = false → wN K Wout D r cls d τ H)
inductive HdN (X : Cx) : List ExceptHandler → List Cl → Prop
  | nil : HdN X [] []
  | cons {x n : Str} {c : Value} {i : Nat} {ts : Addr → Value → Option Addr → TS} {st : Stmt} {sts : List Stmt} {np hp : Pos} {hds : List ExceptHandler} {l : List Cl} (nm : Names X x c) (hi : X.N[i]? = some n) (hl : X.env.kindOf n = some .local)
      (su : ∀ (a : Addr) (oe : Obj) (cls : Value) (d : Option Addr) (pn : List (Addr × Obj)), Zc cls d oe → (∃ fs, oe.data = .fields fs) → PSs (X.suite a ((a, oe) :: pn)) (st :: sts) (ts a cls d)) (r : HdN X hds l) :
      HdN X (.ExceptHandler (some (.Name x np)) (some n) (st :: sts) hp :: hds) ((c, i, ts) :: l)
section
variable {X : Cx} {pins : List (Addr × Obj)} {σ : St} {H : Hp} {D : Ends} {Wout : WX}
/-- the clauses, looked at one after the other, the exception on the ground -/
theorem by_clauses {a : Addr} {B : Heap} {cls : Value} {d : Option Addr} {sI s2 : Shared} {g2 : Heap} (hst : X.stack = X.env :: X.outer) (hfr : X.env.frame = some X.env.locals) (hN : X.N.Nodup) (tk : Takes X Wout) (I : Inv X pins σ H sI)
    (keep : ∀ b o, sI.heap.get? b = some o → b ∉ frs X.stack → B.get? b = some o) (up2 : sI.heap.UpToSlots g2) (hos : s2.os = sI.os) (hgs : AllBare s2.gens) (na : H a = none) (fl : HandSPX.FlyingZ B (X.env :: X.outer) a (Zc cls d) g2) :
    ∀ {hds : List ExceptHandler} {l : List Cl}, HdN X hds l → wN X.K Wout D l cls d σ H → wpAny (model X.prog X.w) X.A (handleBy (.ref a) X.env hds) (SP X pins D) X.xe { s2 with heap := g2 } := by
  have J2 : Inv X pins σ H { s2 with heap := g2 } := I.landed keep fl.1 up2 hos hgs
  obtain ⟨oe, fs, ge, gz, gd⟩ := fl.there
  have away : a ∉ frs (X.env :: X.outer) := fun hm => by
    obtain ⟨_, o', e', hno⟩ := fl.2.2.1.mem hm
    rw [ge] at e'
    cases e'
    exact hno _ gd
  have awayL : a ≠ X.env.locals := fun z => away (List.mem_filterMap.mpr ⟨X.env, List.mem_cons_self, by rw [hfr, z]⟩)
  have awayF : a ∉ X.fs := fun hm => by
    obtain ⟨en, hen, q⟩ := List.mem_filterMap.mp hm
    exact away (List.mem_filterMap.mpr ⟨en, List.mem_cons_of_mem _ hen, q⟩)
  intro hds l hk
  induction hk with
  | nil =>
    intro hw
    apply wpAny_handleBy_nil
    have on : wpAny (model X.prog X.w) X.A (setFlight (.ref a) X.env.frame) (fun _ s4 => wpAny (model X.prog X.w) X.A (throw (.ref a) : Sem Flow) (SP X pins D) X.xe s4) X.xe { s2 with heap := g2 } := by
      rw [hfr]
      apply HandSPX.setFlight_upZ fl
      intro g4 held up4
      apply wpAny_throw
      apply tk
      exact ⟨a, B, sI, pins, σ, H, cls, d, rfl, I, keep, up2.trans up4, .inr (.inr (by rw [hst]; exact held)), na, hos, hgs, hw⟩
    obtain ⟨_, _, _, oe', fs', T, _, _, ge', _, gd', k1, _⟩ := id fl
    unfold PySem.passOn
    refine wpAny_bind (wpAny_field ge' gd' k1 ?_)
    rw [if_neg (by simp)]
    first
      | exact wpAny_bind (wpAny_pure (wpAny_bind on))
      | exact wpAny_bind on
  | @cons x n c i ts st sts np hp hds2 l2 nm hi hl su r ih =>
    intro hw
    obtain ⟨b, hb, yes, no⟩ := hw
    refine wpAny_handleBy_cons (codeAny_handlers_test ?_) (fun q => by cases q)
    have ty : PySem.W.Looks (model X.prog X.w) g2 (typeOf (.ref a)) cls := by
      intro A Q E s kp q
      refine wpAny_typeOf_ref (kp _ _ ge) ?_
      rw [gz.1]
      exact q
    have mt := PySem.W.exm_one (M := model X.prog X.w) J2.kIn ty hb
    have S2 := J2.suite ge gd na awayL awayF
    have look : ∀ {Q : Value → Shared → Prop} {E : Value → Shared → Prop}, Q c { s2 with heap := g2 } → wpAny (model X.prog X.w) (X.A.mark (some (.ref a))) (eval (.Name x np) X.env) Q E { s2 with heap := g2 } := by
      intro Q E q
      obtain ⟨n1, n2, n3 | ⟨n3, n4, n5⟩⟩ := nm
      · exact ld_glob (X := X.suite a ((a, oe) :: (X.pn ++ pins))) S2 n1 n3 q n2
      · exact ld_blt (X := X.suite a ((a, oe) :: (X.pn ++ pins))) S2 n1 n3 n4 q n5 n2
    refine look (mt.here ?_)
    cases b with
    | false => exact ih (no rfl)
    | true =>
      apply codeAny_handlers_suite_as
      apply HandSPX.lands_againZ fl
      intro g4 fl4 up4
      have J4 : Inv X pins σ H { s2 with heap := g4 } := I.landed keep fl4.1 (up2.trans up4) hos hgs
      obtain ⟨oe4, fs4, ge4, gz4, gd4⟩ := fl4.there
      refine store_ok (X := X.suite a ((a, oe4) :: (X.pn ++ pins))) (v := .ref a) (J4.suite ge4 gd4 na awayL awayF) hN hi (.inl hl) rfl ?_ (.inr hl)
      intro s5 S5
      refine wpAny_mono ((su a oe4 cls d (X.pn ++ pins) gz4 ⟨_, gd4⟩).run [] s5 _ H _ S5 (yes rfl a na)) ?_ (fun _ _ z => z.elim)
      intro fl6 s6 hs6
      have leave : ∀ {τ : St} {H6 : Hp} {Q : Shared → Prop}, Inv (X.suite a ((a, oe4) :: (X.pn ++ pins))) [] τ H6 s6 → (∀ s7, Inv X pins (τ.set i none) H6 s7 → Q s7) →
          wpAny (model X.prog X.w) X.A (do bindName X.env n .none; unbindBehindTheSuite X.env n hp) (fun _ s7 => Q s7) X.xe s6 := fun {τ H6 Q} S6 hq => gone_ok (S6.unsuite I.ok) hN hi hl hq
      match fl6, hs6 with
      | .next, ⟨τ, H6, S6, q6⟩ => exact leave S6 fun s7 J7 => ⟨_, _, J7, q6⟩
      | .brk, ⟨τ, H6, S6, q6⟩ => exact leave S6 fun s7 J7 => ⟨_, _, J7, q6⟩
      | .cont, ⟨τ, H6, S6, q6⟩ => exact leave S6 fun s7 J7 => ⟨_, _, J7, q6⟩
      | .ret u, ⟨v6, τ, H6, S6, r6, q6⟩ => exact leave S6 fun s7 J7 => ⟨_, _, _, J7, r6, q6⟩
theorem ps_tryN {body : List Stmt} {h₀ : ExceptHandler} {hds : List ExceptHandler} {l : List Cl} {pos : Pos} {tb : WX → TS} (hst : X.stack = X.env :: X.outer) (hfr : X.env.frame = some X.env.locals) (hN : X.N.Nodup) (tk : Takes X Wout)
    (hb : ∀ (W : WX) (pn : List (Addr × Obj)) (xe : Value → Shared → Prop), Takes (X.tr pn xe) W → PassesOwn (model X.prog X.w) X.A X.env xe → PSs (X.tr pn xe) body (tb W)) (hh : HdN X (h₀ :: hds) l) :
    PS X (.Try body (h₀ :: hds) [] [] pos) (fun D τ H => tb (wN X.K Wout D l) D τ H) := by
  constructor
  intro pins s σ H D I h
  have ok := I.ok
  apply wpAny_Try_except
  let xe : Value → Shared → Prop := fun e s₁ => wpAny (model X.prog X.w) X.A (noteFrame e X.env) (fun _ s₂ => wpAny (model X.prog X.w) X.A (setFlight e none)
    (fun _ s₃ => wpAny (model X.prog X.w) X.A (handleBy e X.env (h₀ :: hds)) (SP X pins D) X.xe s₃) X.xe s₂) X.xe s₁
  have tkb : Takes (X.tr (X.pn ++ pins) xe) (wN X.K Wout D l) := by
    rintro u s' ⟨a, B, sI, pins', τ, H', cls, d, rfl, J', keep, up, sky, na, hos, hgs, hw⟩
    have J : Inv X pins τ H' sI := J'.ofTry ok
    have sky2 : Sky B (X.env :: X.outer) a (Zc cls d) X.env.locals s'.heap := by
      rw [← hst]
      exact sky
    have fr2 : X.A.frames = some (X.env :: X.outer) := ok.frames.trans (congrArg some hst)
    show wpAny (model X.prog X.w) X.A (noteFrame (.ref a) X.env) _ _ _
    apply Sky.land Zc.steady fr2 hfr sky2
    intro g3 fl3 up3
    exact by_clauses hst hfr hN tk J keep (up.trans up3) hos hgs na fl3 hh hw
  refine wpAny_mono ((hb _ (X.pn ++ pins) xe tkb PassesOwn.looking).run [] s σ H D (I.toTry _) h) ?_ (fun _ _ z => z)
  intro f s1 hs1
  match f, hs1 with
  | .next, ⟨τ, H', J', q⟩ => exact wpAny_execs_nil ⟨τ, H', J'.ofTry ok, q⟩
  | .brk, ⟨τ, H', J', q⟩ => exact ⟨τ, H', J'.ofTry ok, q⟩
  | .cont, ⟨τ, H', J', q⟩ => exact ⟨τ, H', J'.ofTry ok, q⟩
  | .ret u, ⟨v, τ, H', J', r, q⟩ => exact ⟨v, τ, H', J'.ofTry ok, r, q⟩
end
end HB
end
section
set_option Elab.async false
set_option linter.all false
set_option maxRecDepth 100000
set_option maxHeartbeats 4000000
namespace HB
open PySem PySem.Spec L2
open PyProof.Rows hiding St
open Evl (Ex ex_t ex_l ex_rd)
/-! ### try -/
def tUS (K : PySem.W.Frag) (W : WX) (f : DEnv → Store → OutS) : TS := fun N σ H => ∃ G α δ μ, Ok K G α H μ ∧ RepE K G α σ δ ∧ PgS K G α H (f δ μ) N W
theorem DSs.canon {X : Cx} {W : WX} {b : List Stmt} {f : DEnv → Store → OutS} (h : DSs X W b f) : PSs X b (tUS X.K W f) := by
  obtain ⟨t, p, j⟩ := h
  exact ⟨fun pins s σ H N I ⟨G, α, δ, μ, ok, re, hp⟩ => p.run pins s σ H N I (j G α H σ δ μ N ok re hp)⟩
abbrev HF := Addr → Option Addr → Err → DEnv → Store → OutS
/-- the classes of the program's errors: each stands directly under HeardbyError -/
def exmD (c h : Str) : Bool := decide (c = h) || decide (h = "HeardbyError")
def unsetS (i : Nat) : OutS → OutS
  | .nx δ μ => .nx (δ.set i none) μ
  | .brk δ μ => .brk (δ.set i none) μ
  | .cnt δ μ => .cnt (δ.set i none) μ
  | .ret u μ => .ret u μ
  | _ => .stuck
def handle (cs : List Str) : List (Str × Nat × HF) → Err → DEnv → Store → OutS
  | [], x, δ, μ => .err x δ μ
  | (h, i, F) :: r, x, δ, μ => match cs.contains x.c with
    | true => (match exmD x.c h with
      | true => unsetS i (F 0 none x (δ.set i (some (.exc 0 none x))) μ)
      | false => handle cs r x δ μ)
    | false => .stuck
def sTry (cs : List Str) (body : DEnv → Store → OutS) (hs : List (Str × Nat × HF)) : DEnv → Store → OutS := fun δ μ => match body δ μ with
  | .err x δ' μ' => handle cs hs x δ' μ'
  | r => r
/-- a suite's reading: the exception at a, of the class cls, its dict d -/
def tSu (K : PySem.W.Frag) (F : HF) : Addr → Value → Option Addr → TS := fun a cls d N σ H => ∃ x G α δ μ, cls = .ref (He.ga K x.c) ∧ Ok K G α H μ ∧ RepE K G α σ δ ∧ PgS K G α H (F a d x δ μ) N W0
/-- the clauses -/
inductive DHs (X : Cx) (cs : List Str) : List ExceptHandler → List (Str × Nat × HF) → Prop
  | nil : DHs X cs [] []
  | cons {h n : Str} {i : Nat} {F : HF} {st : Stmt} {sts : List Stmt} {np hp : Pos} {hds : List ExceptHandler} {l : List (Str × Nat × HF)} (gl : Gl X h) (mg : X.mg h = some (.ref (He.ga X.K h))) (ex : ∀ c ∈ cs, PySem.W.exmOne X.K (.ref (He.ga X.K c)) (.ref (He.ga X.K h)) = some (exmD c h)) (hi : X.N[i]? = some n) (hl : X.env.kindOf n = some .local)
      (ind : ∀ (a : Addr) (d : Option Addr) (x : Err) (δ : DEnv) (μ : Store), unsetS i (F a d x (δ.set i (some (.exc a d x))) μ) = unsetS i (F 0 none x (δ.set i (some (.exc 0 none x))) μ))
      (su : ∀ (a : Addr) (oe : Obj) (cls : Value) (d : Option Addr) (pn : List (Addr × Obj)) (x : Err), Zc cls d oe → (∃ fs, oe.data = .fields fs) → cls = .ref (He.ga X.K x.c) → DSs (X.suite a ((a, oe) :: pn)) W0 (st :: sts) (F a d x)) (r : DHs X cs hds l) (hdb : (h == ("__debug__" : Str)) = false := by decide) :
      DHs X cs (.ExceptHandler (some (.Name h np)) (some n) (st :: sts) hp :: hds) ((h, i, F) :: l)
def clOf (K : PySem.W.Frag) (l : List (Str × Nat × HF)) : List Cl := l.map fun q => (.ref (He.ga K q.1), q.2.1, tSu K q.2.2)
section
variable {X : Cx} {W : WX}
theorem DHs.ok {cs : List Str} : ∀ {hds : List ExceptHandler} {l : List (Str × Nat × HF)}, DHs X cs hds l → HdN X hds (clOf X.K l) := by
  intro hds l h
  induction h with
  | nil => exact .nil
  | @cons h n i F st sts np hp hds l gl mg ex hi hl ind su r hdb ih =>
    refine .cons ⟨gl, hdb, .inl mg⟩ hi hl (fun a oe cls d pn hz hf => ⟨fun pins s σ H N I hw => ?_⟩) ih
    obtain ⟨x, G, α, δ, μ, hc, ok, re, hp⟩ := hw
    obtain ⟨t, p, j⟩ := su a oe cls d pn x hz hf hc
    exact p.run pins s σ H N I (j G α H σ δ μ N ok re hp)
theorem PgS.unset {K : PySem.W.Frag} {G H : Hp} {α : List Addr} {i : Nat} {r : OutS} {N : Ends} (h : PgS K G α H (unsetS i r) N W) : PgS K G α H r (gone N i) W0 := by
  cases r with
  | nx δ μ => exact fun σ' G' α' H' ok st re => h _ G' α' H' ok st (re.unset i none)
  | brk δ μ => exact fun σ' G' α' H' ok st re => h _ G' α' H' ok st (re.unset i none)
  | cnt δ μ => exact fun σ' G' α' H' ok st re => h _ G' α' H' ok st (re.unset i none)
  | ret u μ => exact h
  | err x δ μ => exact h.elim
  | stuck => exact h.elim
theorem handle_ok {cs : List Str} {x : Err} {G H : Hp} {α : List Addr} {δ : DEnv} {μ : Store} {σ : St} {dd : Option Addr} {N : Ends} (ok : Ok X.K G α H μ) (re : RepE X.K G α σ δ) (xr : XRep X.K G dd x) : ∀ {hds : List ExceptHandler} {l : List (Str × Nat × HF)}, DHs X cs hds l → PgS X.K G α H (handle cs l x δ μ) N W → wN X.K W N (clOf X.K l) (.ref (He.ga X.K x.c)) dd σ H := by
  intro hds l h
  induction h with
  | nil => exact fun hp => hp dd σ G α H ok (Stp.refl _ _ _) re xr
  | @cons h n i F st sts np hp hds l gl mg ex hi hl ind su r hdb ih =>
    intro hp
    unfold handle at hp
    split at hp
    · rename_i hc
      have hm : x.c ∈ cs := by simpa using hc
      refine ⟨exmD x.c h, ex _ hm, fun hb a ha => ?_, fun hb => ?_⟩
      · rw [hb] at hp
        have h1 : PgS X.K G α H (unsetS i (F a dd x (δ.set i (some (.exc a dd x))) μ)) N W := by
          rw [ind a dd x δ μ]
          exact hp
        exact ⟨x, G, α, _, μ, rfl, ok, re.set i (show RepU X.K G α (.ref a) (.exc a dd x) from ⟨rfl, xr⟩), PgS.unset h1⟩
      · rw [hb] at hp
        exact ih hp
    · exact hp.elim
theorem ds_try {cs : List Str} {body : List Stmt} {h₀ : ExceptHandler} {hds : List ExceptHandler} {l : List (Str × Nat × HF)} {pos : Pos} {f : DEnv → Store → OutS} (hst : X.stack = X.env :: X.outer) (hfr : X.env.frame = some X.env.locals) (hN : X.N.Nodup) (tk : Takes X W)
    (hb : ∀ (W' : WX) (pn : List (Addr × Obj)) (xe : Value → Shared → Prop), Takes (X.tr pn xe) W' → PassesOwn (model X.prog X.w) X.A X.env xe → DSs (X.tr pn xe) W' body f) (hh : DHs X cs (h₀ :: hds) l) : DS X W (.Try body (h₀ :: hds) [] [] pos) (sTry cs f l) := by
  refine ⟨_, ps_tryN (tb := fun W' => tUS X.K W' f) hst hfr hN tk (fun W' pn xe t1 t2 => (hb W' pn xe t1 t2).canon) hh.ok, fun G α H σ δ μ N ok re h => ?_⟩
  refine ⟨G, α, δ, μ, ok, re, ?_⟩
  unfold sTry at h
  cases e : f δ μ with
  | err x δ' μ' =>
    rw [e] at h
    exact fun dd σ' G' α' H' ok' st re' xr => handle_ok ok' re' xr hh (PgS.step st h)
  | nx δ' μ' =>
    rw [e] at h
    exact h
  | ret u μ' =>
    rw [e] at h
    exact h
  | brk δ' μ' =>
    rw [e] at h
    exact h
  | cnt δ' μ' =>
    rw [e] at h
    exact h
  | stuck =>
    rw [e] at h
    exact h
/-! ### e.f in a suite -/
def eXf (a : Addr) (d : Option Addr) (x0 : Err) (h n : Str) (i : Nat) : DEnv → Store → Out U := fun δ μ => match δ[i]? with
  | some (some (.exc a' d' x)) => if a' = a ∧ d' = d ∧ x0.c = h then (match (x.ns.zip x.ds).lookup n with
    | some y => .ok (.d y) μ
    | none => .stuck) else .stuck
  | _ => .stuck
theorem zip_look {K : PySem.W.Frag} {G : Hp} {n : Str} {y : D} : ∀ {ns : List Str} {vs : List V} {ds : List D}, RepL K G vs ds → (ns.zip ds).lookup n = some y → ∃ v, (ns.zip vs).lookup n = some v ∧ Rep K G v y
  | [], _, _, _, h => by simp at h
  | m :: ns, _, _, .nil, h => by simp at h
  | m :: ns, _, _, .cons r t, h => by
    simp only [List.zip_cons_cons, List.lookup_cons] at h ⊢
    cases e : n == m with
    | true =>
      rw [e] at h
      cases h
      exact ⟨_, rfl, r⟩
    | false =>
      rw [e] at h
      exact zip_look t h
theorem de_xf {a : Addr} {oe : Obj} {cls : Value} {d : Option Addr} {pn : List (Addr × Obj)} {h n e : Str} {i : Nat} {x : Err} {p pos : Pos} (T : XfC X.K (He.ga X.K h)) (no : PySem.W.findIn X.K (.ref (He.ga X.K h)) n = some none) (hz : Zc cls d oe) (hf : ∃ vs, oe.data = .fields vs) (hc : cls = .ref (He.ga X.K x.c))
    (hN : X.N[i]? = some e) (hv : Vis X.env.scope e) (hd : (e == ("__debug__" : Str)) = false := by decide) (hcd : (e == ("__classdict__" : Str)) = false := by decide) (hb : attributeBase (.Name e p) n X.env (eval (.Name e p) X.env) = eval (.Name e p) X.env := by rfl) :
    DE (X.suite a ((a, oe) :: pn)) W0 (.Attribute (.Name e p) n pos) (eXf a d x h n i) := by
  refine ⟨_, pe_xf T no hz hf (pe_var (i := i) hN hv hd hcd) hb, fun G α H σ δ μ Q ok re hp => ?_⟩
  unfold eXf at hp
  split at hp
  · rename_i a' d' x' eq
    split at hp
    · rename_i hq
      obtain ⟨rfl, rfl, hx'⟩ := hq
      split at hp
      · rename_i y ey
        obtain ⟨v, e1, rv, xr⟩ := re.at_ i _ eq
        unfold XRep at xr
        split at xr
        · rename_i en
          rw [en] at ey
          simp at ey
        · obtain ⟨dd, vs, rfl, hg, _, rl⟩ := xr
          obtain ⟨w, e2, rw'⟩ := zip_look rl ey
          exact ⟨v, e1, rv, by rw [hc, hx'], dd, _, w, rfl, ok.ex _ _ hg, e2, Pg.nowD ok rw' hp⟩
      · exact hp.elim
    · exact hp.elim
  · exact hp.elim
end
end HB
end
section
set_option Elab.async false
set_option linter.all false
set_option maxRecDepth 100000
set_option maxHeartbeats 4000000
namespace HB
open PySem PySem.Spec L2
open PyProof.Rows hiding St
open Evl (Ex ex_t ex_l ex_rd)
/-! ### a cell gets other contents -/
theorem Ok.putC {K : PySem.W.Frag} {G H : Hp} {α : List Addr} {μ : Store} {n : Nat} {a : Addr} {o : HO} {c : Cell} (ok : Ok K G α H μ) (hn : α[n]? = some a) (ga : G a = none) (hc : CellOk K G α (upd H a o) a c) :
    Ok K G α (upd H a o) (μ.set n c) ∧ Stp G α H G α (upd H a o) := by
  have ma : a ∈ α := List.mem_of_getElem? hn
  have hl : n < μ.length := by rw [← ok.len]; exact (List.getElem?_eq_some_iff.mp hn).1
  refine ⟨⟨fun b o' e => ?_, by rw [List.length_set]; exact ok.len, ok.nd, fun m b c' h1 h2 => ?_⟩, ⟨Ex.refl G, ⟨[], by simp⟩, fun b o' nb e => ?_, fun b h1 h2 => absurd h1 h2, fun b o' nb e g => g⟩⟩
  · have nb : b ≠ a := fun z => by rw [z, ga] at e; cases e
    rw [upd_ne nb]
    exact ok.ex b o' e
  · by_cases hm : n = m
    · subst hm
      rw [hn] at h1
      cases h1
      rw [List.getElem?_set_self hl] at h2
      cases h2
      exact hc
    · rw [List.getElem?_set_ne hm] at h2
      have nb : b ≠ a := fun z => by
        subst z
        exact hm (nd_ix ok.nd hn h1)
      have k := ok.cell m b c' h1 h2
      cases c' with
      | lst us =>
        obtain ⟨k1, zs, k2, k3⟩ := k
        exact ⟨k1, zs, by rw [upd_ne nb]; exact k2, k3⟩
      | ins c fs =>
        obtain ⟨k1, dx, zs, k2, k3⟩ := k
        exact ⟨k1, dx, zs, by rw [upd_ne nb]; exact k2, k3⟩
      | dead =>
        obtain ⟨o, k⟩ := k
        exact ⟨o, by rw [upd_ne nb]; exact k⟩
  · rw [upd_ne (fun z => nb (by rw [z]; exact ma))]
    exact e
/-! ### fields -/
theorem RepF.look {K : PySem.W.Frag} {G : Hp} {α : List Addr} {f : Str} : ∀ {vs : List (Str × V)} {fs : List (Str × U)}, RepF K G α vs fs → (∀ u, fs.lookup f = some u → ∃ v, vs.lookup f = some v ∧ RepU K G α v u) ∧ (fs.lookup f = none → vs.lookup f = none)
  | _, _, .nil => ⟨fun u e => by simp at e, fun _ => rfl⟩
  | _, _, .cons (a := p) (b := q) h r => by
    obtain ⟨i1, i2⟩ := RepF.look (f := f) r
    obtain ⟨pk, pv⟩ := p
    obtain ⟨qk, qv⟩ := q
    obtain ⟨e1, r1⟩ := h
    simp only at e1 r1
    subst e1
    simp only [List.lookup_cons]
    cases f == pk with
    | true => exact ⟨fun u e => by cases e; exact ⟨_, rfl, r1⟩, fun e => by cases e⟩
    | false => exact ⟨i1, i2⟩
def putU (f : Str) (u : U) : List (Str × U) → List (Str × U)
  | [] => [(f, u)]
  | (g, x) :: r => if g = f then (g, u) :: r else (g, x) :: putU f u r
theorem RepF.put {K : PySem.W.Frag} {G : Hp} {α : List Addr} {f : Str} {v : V} {u : U} (rv : RepU K G α v u) : ∀ {vs : List (Str × V)} {fs : List (Str × U)}, RepF K G α vs fs → RepF K G α (putF f v vs) (putU f u fs)
  | _, _, .nil => .cons ⟨rfl, rv⟩ .nil
  | _, _, .cons (a := p) (b := q) h r => by
    have ih := RepF.put (f := f) rv r
    obtain ⟨pk, pv⟩ := p
    obtain ⟨qk, qv⟩ := q
    obtain ⟨e1, r1⟩ := h
    simp only at e1 r1
    subst e1
    unfold putF putU
    by_cases hk : pk = f
    · rw [if_pos hk, if_pos hk]
      exact .cons ⟨rfl, rv⟩ r
    · rw [if_neg hk, if_neg hk]
      exact .cons ⟨rfl, r1⟩ ih
/-- the instance a value stands for: its class, its fields -/
def insU (μ : Store) : U → Option (Str × List (Str × U))
  | .own n => match μ[n]? with
    | some (.ins c fs) => some (c, fs)
    | _ => none
  | .d (.ob c ns ds) => some (c, ns.zip (ds.map U.d))
  | _ => none
theorem zipF {K : PySem.W.Frag} {G : Hp} {α : List Addr} : ∀ {ns : List Str} {vs : List V} {ds : List D}, RepL K G vs ds → RepF K G α (ns.zip vs) (ns.zip (ds.map U.d))
  | [], _, _, _ => .nil
  | _ :: _, _, _, .nil => .nil
  | _ :: _, _, _, .cons h r => .cons ⟨rfl, h⟩ (zipF r)
theorem insU_at {K : PySem.W.Frag} {G H : Hp} {α : List Addr} {μ : Store} {v : V} {u : U} {c : Str} {fs : List (Str × U)} (ok : Ok K G α H μ) (r : RepU K G α v u) (e : insU μ u = some (c, fs)) :
    ∃ a dx vs, v = .ref a ∧ H a = some (.ins (He.ga K c) dx vs) ∧ RepF K G α vs fs := by
  unfold insU at e
  split at e
  · split at e
    · rename_i eq
      cases e
      obtain ⟨a, h1, rfl⟩ := r
      obtain ⟨_, dx, vs, k2, k3⟩ := ok.cell _ a _ h1 eq
      exact ⟨a, dx, vs, rfl, k2, k3⟩
    · cases e
  · cases e
    cases r with
    | ob h l r => exact ⟨_, _, _, rfl, ok.ex _ _ h, zipF r⟩
  · cases e
/-- what is known of a class whose field f is read or set -/
def FldOk (K : PySem.W.Frag) (cs : List Str) (f : Str) : Prop := ∀ c ∈ cs, Cls K (He.ga K c) ∧ NoAttr K (He.ga K c) f
def fldU (cs : List Str) (f : Str) (u : U) (μ : Store) : Out U := match insU μ u with
  | some (c, fs) => guard (cs.contains c) (match fs.lookup f with
    | some y => .ok y μ
    | none => .stuck)
  | none => .stuck
def eFld (cs : List Str) (f : Str) (fo : DEnv → Store → Out U) : DEnv → Store → Out U := fun δ μ => (fo δ μ).bind (fldU cs f)
section
variable {X : Cx} {W : WX}
theorem de_fld {cs : List Str} {o : Expr} {f : Str} {fo : DEnv → Store → Out U} {pos : Pos} (hf : FldOk X.K cs f) (ho : DE X W o fo) (hb : attributeBase o f X.env (eval o X.env) = eval o X.env := by rfl) : DE X W (.Attribute o f pos) (eFld cs f fo) := by
  obtain ⟨t, p, j⟩ := ho
  refine ⟨_, pe_fld p hb, fun G α H σ δ μ Q ok re hp => ?_⟩
  refine j G α H σ δ μ _ ok re (hp.bind fun u μ1 v G1 α1 H1 ok1 s1 r1 hp1 => ?_)
  unfold fldU at hp1
  split at hp1
  · rename_i c fs e
    obtain ⟨h1, hp1⟩ := hp1.guard
    obtain ⟨a, dx, vs, rfl, h2, h3⟩ := insU_at ok1 r1 e
    obtain ⟨k1, k2⟩ := hf c (by simpa using h1)
    split at hp1
    · rename_i y ey
      obtain ⟨w, e1, rw'⟩ := (h3.look (f := f)).1 y ey
      exact ⟨a, _, dx, vs, w, rfl, h2, k1, k2, e1, Pg.now (ρ := ρU X.K) ok1 rw' hp1⟩
    · exact hp1.elim
  · exact hp1.elim
def setFld (cs : List Str) (f : Str) (u x : U) (μ : Store) : Option Store := match u with
  | .own n => (match μ[n]? with
    | some (.ins c fs) => if cs.contains c && decide (fs.length < 1000) then some (μ.set n (.ins c (putU f x fs))) else none
    | _ => none)
  | _ => none
def sFldU (cs : List Str) (f : Str) (fo fe : DEnv → Store → Out U) : DEnv → Store → OutS := sBind fe fun x δ μ => sBind fo (fun o δ μ1 => match setFld cs f o x μ1 with
  | some μ2 => .nx δ μ2
  | none => .stuck) δ μ
theorem ds_fld {cs : List Str} {o e : Expr} {f : Str} {fo fe : DEnv → Store → Out U} {pos' pos : Pos} (hf : FldOk X.K cs f) (ho : DE X W o fo) (he : DE X W e fe) (hs : swapsWith e (some (.Attribute o f pos')) pos.line X.env = pure false := by rfl) :
    DS X W (.Assign [.Attribute o f pos'] e pos) (sFldU cs f fo fe) := by
  obtain ⟨to, po, jo⟩ := ho
  obtain ⟨te, pe, je⟩ := he
  refine ⟨_, ps_fld po pe hs, fun G α H σ δ μ N ok re h => ?_⟩
  refine je G α H σ δ μ _ ok re (PgS.bind re h fun x μ1 v G1 α1 H1 ok1 s1 r1 h1 => ?_)
  refine jo G1 α1 H1 σ δ μ1 _ ok1 (re.step s1) (PgS.bind (re.step s1) h1 fun o μ2 vo G2 α2 H2 ok2 s2 r2 h2 => ?_)
  have r1' := s2.rep r1
  have re2 := (re.step s1).step s2
  split at h2
  · rename_i μ3 e3
    unfold setFld at e3
    split at e3
    · split at e3
      · rename_i c fs eu
        split at e3
        · rename_i hq
          cases e3
          simp only [Bool.and_eq_true, decide_eq_true_eq] at hq
          obtain ⟨a, k1, rfl⟩ := r2
          obtain ⟨g1, dx, vs, k2, k3⟩ := ok2.cell _ a _ k1 eu
          obtain ⟨c1, c2⟩ := hf c (by simpa using hq.1)
          obtain ⟨ok', st⟩ := ok2.putC (o := .ins (He.ga X.K c) dx (putF f v vs)) (c := .ins c (putU f x fs)) k1 g1 ⟨g1, dx, _, upd_same, k3.put r1'⟩
          exact ⟨a, _, dx, vs, rfl, k2, c1, c2, by rw [k3.length]; exact hq.2, h2 σ _ _ _ ok' st (re2.step st)⟩
        · cases e3
      · cases e3
    · cases e3
  · exact h2.elim
/-! ### callees -/
/-- a callee by its address: n values, keywords ks; with what it answers -/
def CalU (X : Cx) (W : WX) (c : Addr) (n : Nat) (ks : List Str) (g : List U → List U → Store → Out U) : Prop :=
  ∀ (pins : List (Addr × Obj)) (σ : St) (H : Hp) (s : Shared) (Q : VK) (us ws : List Value) (vs zs : List V) (G : Hp) (α : List Addr) (μ : Store) (uu ww : List U), Inv X pins σ H s → Vals vs us → Vals zs ws → Ok X.K G α H μ → RepUL X.K G α vs uu → RepUL X.K G α zs ww →
    uu.length = n → ww.length = ks.length → Pg (ρU X.K) X.K G α H σ (g uu ww μ) Q W → wpAny (model X.prog X.w) X.A (call (.ref c) us (ks.zip ws)) (EP X pins σ Q) X.xe s
/-- where a parameter's value comes from: an argument, a default, a keyword-only default, a keyword -/
inductive Sel where
  | p (i : Nat) | d (i : Nat) | m (i : Nat) | w (i : Nat)
def Sel.of {β : Type} (us ds ms ws : List β) : Sel → Option β
  | .p i => us[i]?
  | .d i => ds[i]?
  | .m i => ms[i]?
  | .w i => ws[i]?
def arr {β : Type} (l : List Sel) (us ds ms ws : List β) : List β := l.filterMap (Sel.of us ds ms ws)
theorem paired_at {β γ : Type} {R : β → γ → Prop} : ∀ {a : List β} {b : List γ}, Paired R a b → ∀ i : Nat, (a[i]? = none ∧ b[i]? = none) ∨ ∃ x y, a[i]? = some x ∧ b[i]? = some y ∧ R x y
  | _, _, .nil, i => .inl ⟨rfl, rfl⟩
  | _, _, .cons h r, 0 => .inr ⟨_, _, rfl, rfl, h⟩
  | _, _, .cons h r, i + 1 => by simpa using paired_at r i
theorem arr_rel {β γ : Type} {R : β → γ → Prop} {a1 a2 a3 a4 : List β} {b1 b2 b3 b4 : List γ} (h1 : Paired R a1 b1) (h2 : Paired R a2 b2) (h3 : Paired R a3 b3) (h4 : Paired R a4 b4) : ∀ l : List Sel, Paired R (arr l a1 a2 a3 a4) (arr l b1 b2 b3 b4)
  | [] => .nil
  | q :: l => by
    have ih := arr_rel h1 h2 h3 h4 l
    have one : (q.of a1 a2 a3 a4 = none ∧ q.of b1 b2 b3 b4 = none) ∨ ∃ x y, q.of a1 a2 a3 a4 = some x ∧ q.of b1 b2 b3 b4 = some y ∧ R x y := by
      cases q with
      | p i => exact paired_at h1 i
      | d i => exact paired_at h2 i
      | m i => exact paired_at h3 i
      | w i => exact paired_at h4 i
    unfold arr
    rcases one with ⟨e1, e2⟩ | ⟨x, y, e1, e2, r⟩
    · rw [List.filterMap_cons_none e1, List.filterMap_cons_none e2]
      exact ih
    · rw [List.filterMap_cons_some e1, List.filterMap_cons_some e2]
      exact .cons r ih
/-- how a call with n values and the keywords ks binds -/
def KBd (K : PySem.W.Frag) (fd : FuncData) (ps : List Str) (n : Nat) (ks : List Str) (l : List Sel) (ds ms : List V) : Prop :=
  ∃ its mv : List Value, Vals ds its ∧ Vals ms mv ∧ ∀ (s : Shared) (us ws : List Value), K.In s.heap → us.length = n → ws.length = ks.length → BindsTo s fd ⟨us, ks.zip ws⟩ (ps.zip (arr l us its mv ws))
section
variable {K : PySem.W.Frag} {x qual : Str} {params : Arguments} {body : List Stmt} {scope : Scope} {dvs : List V} {kws : List (Str × V)} {f : Addr} {fd : FuncData} {ps : List Str}
/-- no defaults -/
theorem kb00 (F : FunD K x qual params body scope [] kws f fd) (n : Nat) (ks : List Str) (l : List Sel)
    (h : ∀ (kV doc pm : Value) (an : Option Addr) (cdv ct : Value) (us ws : List Value), us.length = n → ws.length = ks.length → bindArgs (PySem.W.fnOf x qual params body scope .none kV doc pm an cdv ct) ⟨us, ks.zip ws⟩ = pure (ps.zip (arr l us [] [] ws))) : KBd K fd ps n ks l [] [] := by
  obtain ⟨oc, od, dV, kV, doc, pm, an, cdv, ct, osl, rfl, lk, hcd, hD, hK⟩ := F.ex
  rcases hD with ⟨_, rfl⟩ | ⟨e, _⟩
  · exact ⟨[], [], .nil, .nil, fun s us ws X l1 l2 => .of_eq (h kV doc pm an cdv ct us ws l1 l2)⟩
  · exact absurd rfl e
/-- keyword-only defaults alone -/
theorem kb01 (F : FunD K x qual params body scope [] kws f fd) (n : Nat) (ks : List Str) (ms : List (Str × V)) (l : List Sel) (hk : kws ≠ []) (hms : ∀ q ∈ ms, q ∈ kws)
    (h : ∀ (D : Addr) (doc pm : Value) (an : Option Addr) (cdv ct : Value) (us mv ws : List Value), us.length = n → mv.length = ms.length → ws.length = ks.length →
      KwChain D ((ms.map (·.1)).zip mv) (bindArgs (PySem.W.fnOf x qual params body scope .none (.ref D) doc pm an cdv ct) ⟨us, ks.zip ws⟩) (ps.zip (arr l us [] mv ws))) : KBd K fd ps n ks l [] (ms.map (·.2)) := by
  obtain ⟨oc, od, dV, kV, doc, pm, an, cdv, ct, osl, rfl, lk, hcd, hD, hK⟩ := F.ex
  rcases hD with ⟨_, rfl⟩ | ⟨e, _⟩
  · rcases hK with e | ⟨D, rfl, hq⟩
    · exact absurd e hk
    · obtain ⟨mv, hl, rk, hks⟩ := kwd_vals (ms := ms) fun q hm => hq q (hms q hm)
      exact ⟨[], mv, .nil, rk, fun s us ws X l1 l2 => BindsTo.of_looks fun M => KwChain.looks X hks (h D doc pm an cdv ct us mv ws l1 hl l2)⟩
  · exact absurd rfl e
/-- defaults alone -/
theorem kb10 (F : FunD K x qual params body scope dvs kws f fd) (n : Nat) (ks : List Str) (l : List Sel) (hd : dvs ≠ [])
    (h : ∀ (T : Addr) (kV doc pm : Value) (an : Option Addr) (cdv ct : Value) (us its ws : List Value), us.length = n → its.length = dvs.length → ws.length = ks.length →
      ∃ k, bindArgs (PySem.W.fnOf x qual params body scope (.ref T) kV doc pm an cdv ct) ⟨us, ks.zip ws⟩ = seqItems? (.ref T) >>= k ∧ k (some its.toArray) = pure (ps.zip (arr l us its [] ws))) : KBd K fd ps n ks l dvs [] := by
  obtain ⟨oc, od, dV, kV, doc, pm, an, cdv, ct, osl, rfl, lk, hcd, hD, hK⟩ := F.ex
  rcases hD with ⟨e, _⟩ | ⟨_, T, o, its, m, rfl, lT, oT, rT⟩
  · exact absurd e hd
  · refine ⟨its, [], rT, .nil, fun s us ws X l1 l2 => ?_⟩
    obtain ⟨k, e1, e2⟩ := h T kV doc pm an cdv ct us its ws l1 rT.length.symm l2
    refine BindsTo.of_looks fun M => ?_
    rw [e1]
    exact looks_items X lT oT (.of_pure e2)
/-- both -/
theorem kb11 (F : FunD K x qual params body scope dvs kws f fd) (n : Nat) (ks : List Str) (ms : List (Str × V)) (l : List Sel) (hd : dvs ≠ []) (hk : kws ≠ []) (hms : ∀ q ∈ ms, q ∈ kws)
    (h : ∀ (T D : Addr) (doc pm : Value) (an : Option Addr) (cdv ct : Value) (us its mv ws : List Value), us.length = n → its.length = dvs.length → mv.length = ms.length → ws.length = ks.length →
      ∃ k, bindArgs (PySem.W.fnOf x qual params body scope (.ref T) (.ref D) doc pm an cdv ct) ⟨us, ks.zip ws⟩ = seqItems? (.ref T) >>= k ∧ KwChain D ((ms.map (·.1)).zip mv) (k (some its.toArray)) (ps.zip (arr l us its mv ws))) : KBd K fd ps n ks l dvs (ms.map (·.2)) := by
  obtain ⟨oc, od, dV, kV, doc, pm, an, cdv, ct, osl, rfl, lk, hcd, hD, hK⟩ := F.ex
  rcases hD with ⟨e, _⟩ | ⟨_, T, o, its, m, rfl, lT, oT, rT⟩
  · exact absurd e hd
  · rcases hK with e | ⟨D, rfl, hq⟩
    · exact absurd e hk
    · obtain ⟨mv, hl, rk, hks⟩ := kwd_vals (ms := ms) fun q hm => hq q (hms q hm)
      refine ⟨its, mv, rT, rk, fun s us ws X l1 l2 => ?_⟩
      obtain ⟨k, e1, e2⟩ := h T D doc pm an cdv ct us its mv ws l1 rT.length.symm hl l2
      refine BindsTo.of_looks fun M => ?_
      rw [e1]
      exact looks_items X lT oT (KwChain.looks X hks e2)
end
/-- a def's function, at a call -/
def calF (g : List U → Store → Out U) (l : List Sel) (ds ms : List D) : List U → List U → Store → Out U := fun us ws μ => g (arr l us (ds.map U.d) (ms.map U.d) ws) μ
theorem out_pg {K : PySem.W.Frag} {G H : Hp} {α : List Addr} {σ : St} {r : Out U} {Q : VK} (h : Pg (ρU K) K G α H σ r Q W) : Pg (ρU K) K G α H [] r Q fun cls d _ H' => W cls d σ H' := by
  cases r with
  | ok b μ => exact h
  | err x μ => exact h
  | stuck => exact h
theorem cal_fn {k n : Nat} {f : Addr} {fd : FuncData} {ps ks : List Str} {l : List Sel} {dvs mvs : List V} {dd dm : List D} {g : List U → Store → Out U} (F : FnG X.prog X.w X.K X.mg X.base k f fd ps (SpU X.K g)) (hgd : X.A.guards = some []) (hr : Room k X.A) (hb : KBd X.K fd ps n ks l dvs mvs)
    (hd : ∀ G, RepL X.K G dvs dd) (hm : ∀ G, RepL X.K G mvs dm) (tk : Takes X W) : CalU X W f n ks (calF g l dd dm) := by
  intro pins σ H s Q us ws vs zs G α μ uu ww I r rz ok ru rw' l1 l2 hp
  obtain ⟨its, mv, h1, h2, hto⟩ := hb
  have e1 : us.length = n := r.length.symm.trans (ru.length.trans l1)
  have e2 : ws.length = ks.length := rz.length.symm.trans (rw'.length.trans l2)
  have sp : SpU X.K g (arr l vs dvs mvs zs) H Q (WE W σ) := ⟨G, α, μ, _, ok, arr_rel ru (hd G).toU (hm G).toU rw' l, out_pg hp⟩
  refine wpAny_call (codeAny_mono (F.run X.A X.stack s H ⟨us, ks.zip ws⟩ _ _ Q (WE W σ) hgd hr I.env0 (hto s us ws I.kIn e1 e2) (arr_rel r h1 h2 rz l) sp) ?_)
  intro res s' hq
  match res, hq with
  | .error e, hq => exact passAt tk σ pins H s e s' I hq
  | .ok (.ret u), hq => exact I.after hq
  | .ok .next, hq => exact hq.elim
  | .ok .brk, hq => exact hq.elim
  | .ok .cont, hq => exact hq.elim
/-- C(..): a new cell, then __init__ -/
def mkU (c : Str) (g : List U → List U → Store → Out U) : List U → List U → Store → Out U := fun us ws μ => (g (.own μ.length :: us) ws (μ ++ [.ins c []])).bind fun u μ' => match u with
  | .d .non => .ok (.own μ.length) μ'
  | _ => .stuck
theorem under_guards {A : Around} {C : Addr} {us : List Value} {kw : List (Str × Value)} (h : A.guards = some []) : (A.under (.builtin "type.__call__" ⟨.ref C :: us, kw⟩)).guards = some [] := by
  first
    | exact h
    | simpa [Around.under, Code.guards, Code.isGuard, guardIds, pushGuards] using h
theorem cal_make {k n : Nat} {f : Addr} {c : Str} {fd : FuncData} {ps ks : List Str} {l : List Sel} {dvs mvs : List V} {dd dm : List D} {g : List U → Store → Out U} (M : Mk X.K (He.ga X.K c) f) (F : FnG X.prog X.w X.K X.mg X.base k f fd ps (SpU X.K g)) (hgd : X.A.guards = some []) (hr : Room (k + 1) X.A) (hb : KBd X.K fd ps (n + 1) ks l dvs mvs)
    (hd : ∀ G, RepL X.K G dvs dd) (hm : ∀ G, RepL X.K G mvs dm) (tk : Takes X W) : CalU X W (He.ga X.K c) n ks (mkU c (calF g l dd dm)) := by
  intro pins σ H s Q us ws vs zs G α μ uu ww I r rz ok ru rw' l1 l2 hp
  obtain ⟨its, mv, h1, h2, hto⟩ := hb
  have e1 : us.length = n := r.length.symm.trans (ru.length.trans l1)
  have e2 : ws.length = ks.length := rz.length.symm.trans (rw'.length.trans l2)
  have fx : H (s.heap.objs.size + 1) = none := I.hok.fresh (Nat.le_succ _)
  have fd' : H s.heap.objs.size = none := I.hok.fresh (Nat.le_refl _)
  have ne : s.heap.objs.size + 1 ≠ s.heap.objs.size := Nat.succ_ne_self _
  have I2 := Inv.made (C := He.ga X.K c) I
  obtain ⟨ok1, st1⟩ := ok.aside (o := .own (s.heap.objs.size + 1)) fd'
  have fx1 : upd H s.heap.objs.size (.own (s.heap.objs.size + 1)) (s.heap.objs.size + 1) = none := by rw [upd_ne ne]; exact fx
  have gx : G (s.heap.objs.size + 1) = none := Evl.fresh_back ok.ex fx
  obtain ⟨ok2, st2⟩ := ok1.newCell (o := .ins (He.ga X.K c) s.heap.objs.size []) (c := .ins c []) fx1 ⟨gx, s.heap.objs.size, [], upd_same, .nil⟩
  have st := st1.trans st2
  have self : RepU X.K G (α ++ [s.heap.objs.size + 1]) (.ref (s.heap.objs.size + 1)) (.own μ.length) := ⟨_, by rw [← ok.len]; simp, rfl⟩
  have ru2 : RepUL X.K G (α ++ [s.heap.objs.size + 1]) (.ref (s.heap.objs.size + 1) :: vs) (.own μ.length :: uu) := .cons self (st.repL ru)
  have rv2 : Vals (V.ref (s.heap.objs.size + 1) :: vs) (Value.ref (s.heap.objs.size + 1) :: us) := .cons rfl r
  have sp : SpU X.K g (arr l (.ref (s.heap.objs.size + 1) :: vs) dvs mvs zs) (upd (upd H s.heap.objs.size (.own (s.heap.objs.size + 1))) (s.heap.objs.size + 1) (.ins (He.ga X.K c) s.heap.objs.size [])) (fun v H2 => v = .non ∧ Q (.ref (s.heap.objs.size + 1)) H2) (WE W σ) := by
    refine ⟨G, _, _, _, ok2, arr_rel ru2 (hd G).toU (hm G).toU (st.repL rw') l, ?_⟩
    have hp2 := Pg.step st hp
    unfold mkU calF at hp2
    cases e : g (arr l (.own μ.length :: uu) (dd.map U.d) (dm.map U.d) ww) (μ ++ [.ins c []]) with
    | stuck =>
      rw [e] at hp2
      exact hp2.elim
    | err x μ' =>
      rw [e] at hp2
      exact hp2
    | ok b μ' =>
      rw [e] at hp2
      simp only [Out.bind] at hp2
      split at hp2
      · intro v G' α' H' ok' st' rv
        cases rv
        exact ⟨rfl, hp2 _ G' α' H' ok' st' (st'.rep self)⟩
      · exact hp2.elim
  refine wpAny_call (make_map (f := f) I.kIn M.makes M.init (beq_iff_eq.mp M.fn) (codeAny_mono (F.run _ X.stack _ _ ⟨Value.ref (s.heap.objs.size + 1) :: us, ks.zip ws⟩ _ _ _ (WE W σ) (under_guards hgd) (hr.make (He.ga X.K c) us (ks.zip ws)) (I2.env0.make (He.ga X.K c) us (ks.zip ws)) (hto _ (Value.ref (s.heap.objs.size + 1) :: us) ws I2.kIn (by simp [e1]) e2) (arr_rel rv2 h1 h2 rz l) sp) ?_))
  intro res s' hq
  match res, hq with
  | .error e, hq => exact passAt tk σ pins _ _ e s' I2 hq
  | .ok (.ret u), hq =>
    obtain ⟨v, H', I3, rv, ev, q3⟩ := I2.after hq
    subst ev
    exact ⟨rv, ⟨V.ref (s.heap.objs.size + 1), H', I3, rfl, q3⟩⟩
  | .ok .next, hq => exact hq.elim
  | .ok .brk, hq => exact hq.elim
  | .ok .cont, hq => exact hq.elim
/-! ### keywords -/
def DK (X : Cx) (W : WX) (kws : List Keyword) (f : DEnv → Store → Out (List U)) : Prop := ∃ t, PK X kws t ∧ J (ρL X.K) X.K W t f
theorem jnil : J (ρL X.K) X.K W tNil aNil := by
  obtain ⟨t, p, j⟩ := da_nil (X := X) (W := W)
  exact fun G α H σ δ μ Q ok re hp => Pg.now (ρ := ρL X.K) ok .nil hp
theorem dk_nil : DK X W [] aNil := ⟨_, pk_nil, jnil⟩
theorem dk_cons {e : Expr} {kws : List Keyword} {nm : Option Str} {kpos : Pos} {f : DEnv → Store → Out U} {g : DEnv → Store → Out (List U)} (he : DE X W e f) (hr : DK X W kws g) : DK X W (⟨nm, e, kpos⟩ :: kws) (aCons f g) := by
  obtain ⟨t, p, j⟩ := he
  obtain ⟨t2, p2, j2⟩ := hr
  refine ⟨_, pk_cons p p2, fun G α H σ δ μ Q ok re hp => ?_⟩
  refine j G α H σ δ μ _ ok re (hp.bind fun u μ1 v G1 α1 H1 ok1 s1 r1 hp1 => ?_)
  refine j2 G1 α1 H1 σ δ μ1 _ ok1 (re.step s1) (hp1.bind fun us μ2 vs G2 α2 H2 ok2 s2 r2 hp2 => ?_)
  exact Pg.now (ρ := ρL X.K) ok2 (.cons (s2.rep r1) r2) hp2
end
end HB
end
section
set_option Elab.async false
set_option linter.all false
set_option maxRecDepth 100000
set_option maxHeartbeats 4000000
namespace HB
open PySem PySem.Spec L2
open PyProof.Rows hiding St
open Evl (Ex ex_t ex_l ex_rd)
section
variable {X : Cx} {W : WX}
/-- the arguments and the keywords, then the callee -/
def eCal (n k : Nat) (g : List U → List U → Store → Out U) (fa fk : DEnv → Store → Out (List U)) : DEnv → Store → Out U := fun δ μ => (fa δ μ).bind fun us μ1 => (fk δ μ1).bind fun ws μ2 => guard (us.length == n && ws.length == k) (g us ws μ2)
def tCal (X : Cx) (W : WX) (n k : Nat) (g : List U → List U → Store → Out U) (t tk : TA) : TE := fun σ H Q => t σ H fun vs H1 => tk σ H1 fun zs H2 => ∃ G α μ uu ww, Ok X.K G α H2 μ ∧ RepUL X.K G α vs uu ∧ RepUL X.K G α zs ww ∧ uu.length = n ∧ ww.length = k ∧ Pg (ρU X.K) X.K G α H2 σ (g uu ww μ) Q W
theorem jcal {n k : Nat} {g : List U → List U → Store → Out U} {t tk : TA} {fa fk : DEnv → Store → Out (List U)} (ja : J (ρL X.K) X.K W t fa) (jk : J (ρL X.K) X.K W tk fk) : J (ρU X.K) X.K W (tCal X W n k g t tk) (eCal n k g fa fk) := fun G α H σ δ μ Q ok re hp => by
  refine ja G α H σ δ μ _ ok re (hp.bind fun us μ1 vs G1 α1 H1 ok1 s1 r1 hp1 => ?_)
  refine jk G1 α1 H1 σ δ μ1 _ ok1 (re.step s1) (hp1.bind fun ws μ2 zs G2 α2 H2 ok2 s2 r2 hp2 => ?_)
  obtain ⟨h1, hp2⟩ := hp2.guard
  simp only [Bool.and_eq_true, beq_iff_eq] at h1
  exact ⟨G2, α2, μ2, us, ws, ok2, s2.repL r1, r2, h1.1, h1.2, hp2⟩
/-- x(e, .., k = v, ..) -/
theorem de_ncall {n k : Nat} {c : Addr} {ks : List Str} {g : List U → List U → Store → Out U} {x : Str} {e : Expr} {es : List Expr} {kws : List Keyword} {fa fk : DEnv → Store → Out (List U)} {p pos : Pos} (C : CalU X W c n ks g) (hg : Gl X x) (hm : X.mg x = some (.ref c)) (hk : PySem.W.keepIn X.K (.ref c) = true) (ha : DA X W (e :: es) fa) (hkw : DK X W kws fk)
    (hn : ks.length = k := by rfl) (hall : (backToKw pos (keywordEach kws X.env)).all (·.1.isSome) = true := by rfl) (hks : (backToKw pos (keywordEach kws X.env)).filterMap (·.1) = ks := by rfl) (hdb : (x == ("__debug__" : Str)) = false := by decide)
    (he : starEach (e :: es) X.env = (false, eval e X.env) :: starEach es X.env := by rfl) (hpl : ((backTo pos (starEach (e :: es) X.env)).any (·.1) || (backToKw pos (keywordEach kws X.env)).any (·.1.isNone)) = false := by rfl) :
    DE X W (.Call (.Name x p) (e :: es) kws pos) (eCal n k g fa fk) := by
  obtain ⟨t, pa, ja⟩ := ha
  obtain ⟨t2, pk, jk⟩ := hkw
  refine ⟨tCal X W n k g t t2, ⟨fun pins s σ H Q I h => ?_⟩, jcal ja jk⟩
  apply wpAny_Call_Name_kw
  apply ld_glob I hg hm _ hdb
  apply PySem.W.callWith_KW (h₀ := X.base) I.ok.mod.kin hk hall _ hpl he
  refine thn (pa.run pos pins s σ H _ I h) ?_
  rintro us s1 ⟨vs, H1, I1, r, q⟩
  refine thn (pk.run pos pins s1 σ H1 _ I1 q) ?_
  rintro ws s2 ⟨zs, H2, I2, rz, G, α, μ, uu, ww, ok, ru, rw', l1, l2, hp⟩
  rw [hks]
  exact ⟨I2.kIn, C pins σ H2 s2 Q us ws vs zs G α μ uu ww I2 r rz ok ru rw' l1 (l2.trans hn.symm) hp⟩
/-- x(k = v, ..), x() -/
theorem de_ncall0 {n k : Nat} {c : Addr} {ks : List Str} {g : List U → List U → Store → Out U} {x : Str} {kws : List Keyword} {fk : DEnv → Store → Out (List U)} {p pos : Pos} (C : CalU X W c n ks g) (hg : Gl X x) (hm : X.mg x = some (.ref c)) (hk : PySem.W.keepIn X.K (.ref c) = true) (hkw : DK X W kws fk)
    (hn : ks.length = k := by rfl) (hall : (backToKw pos (keywordEach kws X.env)).all (·.1.isSome) = true := by rfl) (hks : (backToKw pos (keywordEach kws X.env)).filterMap (·.1) = ks := by rfl) (hdb : (x == ("__debug__" : Str)) = false := by decide)
    (hpl : ((backTo pos (starEach [] X.env)).any (·.1) || (backToKw pos (keywordEach kws X.env)).any (·.1.isNone)) = false := by rfl) :
    DE X W (.Call (.Name x p) [] kws pos) (eCal n k g aNil fk) := by
  obtain ⟨t2, pk, jk⟩ := hkw
  refine ⟨tCal X W n k g tNil t2, ⟨fun pins s σ H Q I h => ?_⟩, jcal jnil jk⟩
  apply wpAny_Call_Name_kw
  apply ld_glob I hg hm _ hdb
  apply PySem.W.callWith_KW0 (h₀ := X.base) I.ok.mod.kin hk hall _ hpl
  refine thn (pk.run pos pins s σ H _ I h) ?_
  rintro ws s2 ⟨zs, H2, I2, rz, G, α, μ, uu, ww, ok, ru, rw', l1, l2, hp⟩
  rw [hks]
  exact ⟨I2.kIn, C pins σ H2 s2 Q [] ws [] zs G α μ uu ww I2 .nil rz ok ru rw' l1 (l2.trans hn.symm) hp⟩
/-! ### methods -/
/-- an instance of c without an own attribute m -/
def hasM (c m : Str) (μ : Store) (u : U) : Bool := match insU μ u with
  | some (c', fs) => c' == c && (fs.lookup m).isNone
  | none => false
theorem hasM_at {K : PySem.W.Frag} {G H : Hp} {α : List Addr} {μ : Store} {v : V} {u : U} {c m : Str} (ok : Ok K G α H μ) (r : RepU K G α v u) (e : hasM c m μ u = true) :
    ∃ a dx vs, v = .ref a ∧ H a = some (.ins (He.ga K c) dx vs) ∧ vs.lookup m = none := by
  unfold hasM at e
  split at e
  · rename_i c' fs ei
    simp only [Bool.and_eq_true, beq_iff_eq, Option.isNone_iff_eq_none] at e
    obtain ⟨rfl, el⟩ := e
    obtain ⟨a, dx, vs, rfl, h1, h2⟩ := insU_at ok r ei
    exact ⟨a, dx, vs, rfl, h1, (h2.look (f := m)).2 el⟩
  · cases e
/-- o.m(..): the object, then the arguments, then the callee -/
def eMc (c m : Str) (n k : Nat) (g : List U → List U → Store → Out U) (fo : DEnv → Store → Out U) (fa fk : DEnv → Store → Out (List U)) : DEnv → Store → Out U := fun δ μ => (fo δ μ).bind fun u μ1 => guard (hasM c m μ1 u) (eCal n k (fun us ws μ => g (u :: us) ws μ) fa fk δ μ1)
def tMc (X : Cx) (W : WX) (c m : Str) (n k : Nat) (g : List U → List U → Store → Out U) (ta : TE) (t tk : TA) : TE := fun σ H Q => ta σ H fun x H1 => ∃ a dx fs, x = .ref a ∧ H1 a = some (.ins (He.ga X.K c) dx fs) ∧ fs.lookup m = none ∧
  t σ H1 fun vs H2 => tk σ H2 fun zs H3 => ∃ G α μ uu ww, Ok X.K G α H3 μ ∧ RepUL X.K G α (x :: vs) uu ∧ RepUL X.K G α zs ww ∧ uu.length = n + 1 ∧ ww.length = k ∧ Pg (ρU X.K) X.K G α H3 σ (g uu ww μ) Q W
theorem jmc {c m : Str} {n k : Nat} {g : List U → List U → Store → Out U} {ta : TE} {t tk : TA} {fo : DEnv → Store → Out U} {fa fk : DEnv → Store → Out (List U)} (jo : J (ρU X.K) X.K W ta fo) (ja : J (ρL X.K) X.K W t fa) (jk : J (ρL X.K) X.K W tk fk) : J (ρU X.K) X.K W (tMc X W c m n k g ta t tk) (eMc c m n k g fo fa fk) := fun G α H σ δ μ Q ok re hp => by
  refine jo G α H σ δ μ _ ok re (hp.bind fun u μ0 v G0 α0 H0 ok0 s0 r0 hp0 => ?_)
  obtain ⟨h0, hp0⟩ := hp0.guard
  obtain ⟨a, dx, vs, rfl, k1, k2⟩ := hasM_at ok0 r0 h0
  refine ⟨a, dx, vs, rfl, k1, k2, ?_⟩
  have re0 := re.step s0
  refine ja G0 α0 H0 σ δ μ0 _ ok0 re0 (hp0.bind fun us μ1 vs G1 α1 H1 ok1 s1 r1 hp1 => ?_)
  refine jk G1 α1 H1 σ δ μ1 _ ok1 (re0.step s1) (hp1.bind fun ws μ2 zs G2 α2 H2 ok2 s2 r2 hp2 => ?_)
  obtain ⟨h1, hp2⟩ := hp2.guard
  simp only [Bool.and_eq_true, beq_iff_eq] at h1
  exact ⟨G2, α2, μ2, u :: us, ws, ok2, .cons (s2.rep (s1.rep r0)) (s2.repL r1), r2, by simp [h1.1], h1.2, hp2⟩
theorem de_mcall {pl : Sem Bool} {n k : Nat} {f : Addr} {c m : Str} {ks : List Str} {g : List U → List U → Store → Out U} {o e : Expr} {es : List Expr} {kws : List Keyword} {fo : DEnv → Store → Out U} {fa fk : DEnv → Store → Out (List U)} {apos pos : Pos} (C : CalU X W f (n + 1) ks g) (hc : Cls X.K (He.ga X.K c)) (hm : Meth X.K (He.ga X.K c) m f)
    (ho : DE X W o fo) (ha : DA X W (e :: es) fa) (hkw : DK X W kws fk) (hn : ks.length = k := by rfl) (hall : (backToKw pos (keywordEach kws X.env)).all (·.1.isSome) = true := by rfl) (hks : (backToKw pos (keywordEach kws X.env)).filterMap (·.1) = ks := by rfl)
    (he : starEach (e :: es) X.env = (false, eval e X.env) :: starEach es X.env := by rfl) (hpl : ((backTo pos (starEach (e :: es) X.env)).any (·.1) || (backToKw pos (keywordEach kws X.env)).any (·.1.isNone)) = false := by rfl)
    (ht : eval (.Call (.Attribute o m apos) (e :: es) kws pos) X.env = (do
      let ov ← eval o X.env
      standAt apos.atName
      let (f, first) ← holding [ov] (getMethod ov m pl)
      callWith pos f first (backTo pos (starEach (e :: es) X.env)) (backToKw pos (keywordEach kws X.env))) := by rfl) :
    DE X W (.Call (.Attribute o m apos) (e :: es) kws pos) (eMc c m n k g fo fa fk) := by
  obtain ⟨to, po, jo⟩ := ho
  obtain ⟨t, pa, ja⟩ := ha
  obtain ⟨t2, pk, jk⟩ := hkw
  refine ⟨tMc X W c m n k g to t t2, ⟨fun pins s σ H Q I h => ?_⟩, jmc jo ja jk⟩
  refine PySem.W.methodCall_KW (pl := pl) (thn (po.run pins s σ H _ I h) ?_) ht
  rintro u s1 ⟨x, H1, I1, rx, a, dx, fs, rfl, ea, el, q⟩
  obtain rfl : u = Value.ref a := rx
  apply getmeth_ok I1 ea hc hm el
  apply PySem.W.callWith_KW (first := [.ref a]) (h₀ := X.base) I.ok.mod.kin hm.kp hall _ hpl he
  refine thn (pa.run pos pins s1 σ H1 _ I1 q) ?_
  rintro us s2 ⟨vs, H2, I2, r, q⟩
  refine thn (pk.run pos pins s2 σ H2 _ I2 q) ?_
  rintro ws s3 ⟨zs, H3, I3, rz, G, α, μ, uu, ww, ok, ru, rw', l1, l2, hp⟩
  rw [hks]
  exact ⟨I3.kIn, C pins σ H3 s3 Q (.ref a :: us) ws (.ref a :: vs) zs G α μ uu ww I3 (.cons rfl r) rz ok ru rw' l1 (l2.trans hn.symm) hp⟩
theorem de_mcall0 {pl : Sem Bool} {k : Nat} {f : Addr} {c m : Str} {ks : List Str} {g : List U → List U → Store → Out U} {o : Expr} {kws : List Keyword} {fo : DEnv → Store → Out U} {fk : DEnv → Store → Out (List U)} {apos pos : Pos} (C : CalU X W f 1 ks g) (hc : Cls X.K (He.ga X.K c)) (hm : Meth X.K (He.ga X.K c) m f)
    (ho : DE X W o fo) (hkw : DK X W kws fk) (hn : ks.length = k := by rfl) (hall : (backToKw pos (keywordEach kws X.env)).all (·.1.isSome) = true := by rfl) (hks : (backToKw pos (keywordEach kws X.env)).filterMap (·.1) = ks := by rfl)
    (hpl : ((backTo pos (starEach [] X.env)).any (·.1) || (backToKw pos (keywordEach kws X.env)).any (·.1.isNone)) = false := by rfl)
    (ht : eval (.Call (.Attribute o m apos) [] kws pos) X.env = (do
      let ov ← eval o X.env
      standAt apos.atName
      let (f, first) ← holding [ov] (getMethod ov m pl)
      callWith pos f first (backTo pos (starEach [] X.env)) (backToKw pos (keywordEach kws X.env))) := by rfl) :
    DE X W (.Call (.Attribute o m apos) [] kws pos) (eMc c m 0 k g fo aNil fk) := by
  obtain ⟨to, po, jo⟩ := ho
  obtain ⟨t2, pk, jk⟩ := hkw
  refine ⟨tMc X W c m 0 k g to tNil t2, ⟨fun pins s σ H Q I h => ?_⟩, jmc jo jnil jk⟩
  refine PySem.W.methodCall_KW (pl := pl) (thn (po.run pins s σ H _ I h) ?_) ht
  rintro u s1 ⟨x, H1, I1, rx, a, dx, fs, rfl, ea, el, q⟩
  obtain rfl : u = Value.ref a := rx
  apply getmeth_ok I1 ea hc hm el
  apply PySem.W.callWith_KW0 (first := [.ref a]) (h₀ := X.base) I.ok.mod.kin hm.kp hall _ hpl
  refine thn (pk.run pos pins s1 σ H1 _ I1 q) ?_
  rintro ws s3 ⟨zs, H3, I3, rz, G, α, μ, uu, ww, ok, ru, rw', l1, l2, hp⟩
  rw [hks]
  exact ⟨I3.kIn, C pins σ H3 s3 Q [.ref a] ws [.ref a] zs G α μ uu ww I3 (.cons rfl .nil) rz ok ru rw' l1 (l2.trans hn.symm) hp⟩
/-! ### properties -/
def okOnly (r : Out U) : Out U := match r with
  | .ok b μ => .ok b μ
  | _ => .stuck
def ePr (c : Str) (g : List U → Store → Out U) (fo : DEnv → Store → Out U) : DEnv → Store → Out U := fun δ μ => (fo δ μ).bind fun u μ1 => match insU μ1 u with
  | some (c', _) => guard (c' == c) (okOnly (g [u] μ1))
  | none => .stuck
theorem de_prop {k : Nat} {c f : Str} {p gt : Addr} {fd : FuncData} {ps : List Str} {g : List U → Store → Out U} {o : Expr} {fo : DEnv → Store → Out U} {pos : Pos} (hc : Cls X.K (He.ga X.K c)) (hp : PropOf X.K (He.ga X.K c) f p gt) (F : FnG X.prog X.w X.K X.mg X.base k gt fd ps (SpU X.K g)) (hgd : X.A.guards = some []) (hr : Room (k + 1) X.A) (hb : Binds X.K fd ps [])
    (ho : DE X W o fo) (hab : attributeBase o f X.env (eval o X.env) = eval o X.env := by rfl) : DE X W (.Attribute o f pos) (ePr c g fo) := by
  obtain ⟨t, po, jo⟩ := ho
  refine ⟨tProp (He.ga X.K c) (SpU X.K g) [] (fun _ _ _ => False) t, ⟨fun pins s σ H Q I h => ?_⟩, fun G α H σ δ μ Q ok re hq => ?_⟩
  · refine attr_of hab (thn (po.run pins s σ H _ I h) ?_)
    rintro u s1 ⟨x, H1, I1, rx, a, dx, fs, rfl, ea, q⟩
    obtain rfl : u = Value.ref a := rx
    obtain ⟨mA, O, _, _, _, _⟩ := ins_get I1.hok ea
    obtain ⟨od, J, _⟩ := O.look
    obtain ⟨rest, hrec⟩ := hp.rec_
    have I2 := I1.tok (s1.toks + 1)
    have hl : ([Value.ref a] ++ ([] : List Value)).length = ps.length := (show [V.ref a].length = ps.length from F.len _ _ _ _ q)
    have isc : (PySem.W.clsIn X.K (He.ga X.K c)).isSome = true := by
      obtain ⟨cd, e1, _⟩ := PySem.W.any_some hc.hd
      rw [e1]
      rfl
    refine PySem.W.get_bind I1.kIn J (PySem.W.plainGet_of (hc.get f)).1 (PySem.W.findObj_data isc hp.at_ hp.get hp.tak) (PySem.W.plainGet_of (hc.get f)).2 (wpAny_call (PySem.W.prop_get (s := { s1 with toks := s1.toks + 1 }) I1.kIn hrec ?_))
    refine codeAny_mono (F.run X.A.in1 X.stack { s1 with toks := s1.toks + 1 } H1 ⟨[.ref a], []⟩ [.ref a] [.ref a] Q _ hgd hr.in1 I2.env0.in1 (hb _ [.ref a] I2.kIn hl) (.cons rfl .nil) q) ?_
    intro res s' hz
    match res, hz with
    | .error e, hz =>
      obtain ⟨_, _, _, _, _, _, _, _, _, _, _, _, z⟩ := hz
      exact z.elim
    | .ok (.ret w), hz =>
      obtain ⟨v, H', I3, rv, q3⟩ := I2.after hz
      show wpAny _ _ (handedOut w) _ _ _
      rw [PySem.W.handedOut_of (handed_of rv)]
      exact wpAny_pure ⟨v, H', I3, rv, q3⟩
    | .ok .next, hz => exact hz.elim
    | .ok .brk, hz => exact hz.elim
    | .ok .cont, hz => exact hz.elim
  · refine jo G α H σ δ μ _ ok re (hq.bind fun u μ1 v G1 α1 H1 ok1 s1 r1 hq1 => ?_)
    split at hq1
    · rename_i c' fs ei
      obtain ⟨h1, hq2⟩ := hq1.guard
      obtain rfl : c' = c := by simpa using h1
      obtain ⟨a, dx, vs, rfl, h2, h3⟩ := insU_at ok1 r1 ei
      refine ⟨a, dx, vs, rfl, h2, G1, α1, μ1, [u], ok1, .cons r1 .nil, ?_⟩
      unfold okOnly at hq2
      split at hq2
      · rename_i b μ2 eg
        rw [eg]
        exact hq2
      · exact hq2.elim
    · exact hq1.elim
/-! ### constants of a class -/
theorem de_cval {x f : Str} {C : Addr} {mc : Value} {v : V} {u : Value} {d : D} {p pos : Pos} (hg : Gl X x) (hm : X.mg x = some (.ref C)) (cr : ClX.CRead X.K C mc) (cv : ClX.CVal X.K C mc f v u) (rd : ∀ G, Rep X.K G v d) (hd : (x == ("__debug__" : Str)) = false := by decide) (hb : attributeBase (.Name x p) f X.env (eval (.Name x p) X.env) = eval (.Name x p) X.env := by rfl) :
    DE X W (.Attribute (.Name x p) f pos) (eC d) :=
  ⟨_, ClX.pe_cval (pe_glob (v := .ref C) hg hm rfl hd) hb, fun G α H σ δ μ Q ok re h => ⟨C, mc, v, u, rfl, cr, cv, Pg.nowD ok (rd G) h⟩⟩
end
end HB
end
section
set_option Elab.async false
set_option linter.all false
set_option maxRecDepth 100000
set_option maxHeartbeats 4000000
namespace HB
open PySem PySem.Spec L2
open PyProof.Rows hiding St
open Evl (Ex ex_t ex_l ex_rd)
/-! ### the place of a text among texts -/
def idxOf (z : Str) : List Str → Option Nat
  | [] => none
  | y :: r => if y = z then some 0 else (idxOf z r).map (· + 1)
theorem idxOf_some {z : Str} : ∀ {ys : List Str} {j : Nat}, idxOf z ys = some j → ys[j]? = some z ∧ ∀ m, m < j → ys[m]? ≠ some z
  | [], j, h => by cases h
  | y :: r, j, h => by
    unfold idxOf at h
    split at h
    · rename_i e
      cases h
      subst e
      exact ⟨rfl, fun m hm => absurd hm (Nat.not_lt_zero _)⟩
    · rename_i ne
      rw [Option.map_eq_some_iff] at h
      obtain ⟨i, e1, rfl⟩ := h
      obtain ⟨h1, h2⟩ := idxOf_some e1
      refine ⟨by simpa using h1, fun m hm => ?_⟩
      cases m with
      | zero => simpa using ne
      | succ m => simpa using h2 m (by omega)
def strsU : List U → Option (List Str)
  | [] => some []
  | .d (.str x) :: r => (strsU r).map (x :: ·)
  | _ :: _ => none
theorem strsU_rep {K : PySem.W.Frag} {G : Hp} {α : List Addr} : ∀ {us : List U} {xs : List V} {ys : List Str}, RepUL K G α xs us → strsU us = some ys → xs = ys.map V.str
  | [], _, _, .nil, h => by cases h; rfl
  | u :: us, _, ys, .cons r t, h => by
    cases u with
    | d x =>
      cases x with
      | str z =>
        simp only [strsU, Option.map_eq_some_iff] at h
        obtain ⟨zs, e1, rfl⟩ := h
        cases r
        rw [strsU_rep t e1]
        rfl
      | _ => cases h
    | own n => cases h
    | exc a d x => cases h
section
variable {X : Cx} {W : WX}
/-- GLOBAL.index(e), a module's tuple of texts -/
def eGidx (ys : List Str) (fa : DEnv → Store → Out (List U)) : DEnv → Store → Out U := fun δ μ => (fa δ μ).bind fun us μ1 => match us with
  | [.d (.str z)] => (match idxOf z ys with
    | some j => .ok (.d (.int (j : Nat))) μ1
    | none => .stuck)
  | _ => .stuck
def tupK (K : PySem.W.Frag) (x : Str) : Bool := match K.lookup (He.ga K x) with
  | some ⟨.type c, none, _, _⟩ => decide (c = "tuple")
  | _ => false
theorem tupK_at {K : PySem.W.Frag} {x : Str} (h : tupK K x = true) : ∃ o, K.lookup (He.ga K x) = some o ∧ o.cls = .type "tuple" ∧ o.dict = none := by
  unfold tupK at h
  split at h
  · rename_i c dt sl e
    exact ⟨_, e, by rw [of_decide_eq_true h], rfl⟩
  · cases h
theorem de_gidx {x : Str} {ys : List Str} {e : Expr} {fa : DEnv → Store → Out (List U)} {p apos cpos : Pos} (hg : Gl X x) (hm : X.mg x = some (.ref (He.ga X.K x))) (hk : tupK X.K x = true) (ht : ∀ G, SqT X.K G (He.ga X.K x) (ys.map V.str)) (ha : DA X W [e] fa) (hdb : (x == ("__debug__" : Str)) = false := by decide)
    (hbase : attributeBase (.Name x p) "index" X.env (eval (.Name x p) X.env) = eval (.Name x p) X.env := by rfl)
    (hfew : ((backTo cpos (starEach [e] X.env)).all (fun x => !x.1) && (backToKw cpos (keywordEach [] X.env)).all (fun x => x.1.isSome)
      && decide ([e].length + ([] : List Keyword).length + (if ([] : List Keyword).isEmpty then 0 else 1) < 30)) = true := by rfl)
    (hline : (apos.endLine == cpos.line) = true := by rfl) (hs : starEach [e] X.env = (false, eval e X.env) :: starEach [] X.env := by rfl) (hplain : (backTo cpos (starEach [] X.env)).any (·.1) = false := by rfl) :
    DE X W (.Call (.Attribute (.Name x p) "index" apos) [e] [] cpos) (eGidx ys fa) := by
  obtain ⟨t, pa, ja⟩ := ha
  refine ⟨_, pe_bm PySem.F.plainAttrs_tuple PySem.F.slot_tuple_index PySem.F.type_tuple_index mt_tup_index (pe_glob (v := .ref (He.ga X.K x)) hg hm rfl hdb) pa hbase hfew hline hs hplain, fun G α H σ δ μ Q ok re hp => ?_⟩
  refine ⟨.inr (.inl ⟨rfl, tupK_at hk⟩), ja G α H σ δ μ _ ok re (hp.bind fun us μ1 vs G1 α1 H1 ok1 s1 r1 hp1 => ?_)⟩
  split at hp1
  · rename_i z
    split at hp1
    · rename_i j ej
      obtain ⟨h1, h2⟩ := idxOf_some ej
      obtain ⟨v, rfl, rz⟩ := one_rep r1
      cases rz
      exact ⟨_, ys, z, j, rfl, rfl, ht H1, h1, h2, Pg.nowD ok1 .int hp1⟩
    · exact hp1.elim
  · exact hp1.elim
/-- xs.index(e), texts -/
def idxU : U → List U → Store → Out U
  | u, [.d (.str z)], μ => match (lsU μ u).bind strsU with
    | some ys => (match idxOf z ys with
      | some j => .ok (.d (.int (j : Nat))) μ
      | none => .stuck)
    | none => .stuck
  | _, _, _ => .stuck
theorem eqV_str {y z : Str} : eqV (.str y) (.str z) = (y == z) := rfl
theorem mb_index : MtB X W "list.index" idxU := by
  refine ⟨_, mt_index, fun G α H σ μ x vs u us Q ok rx rv hp => ?_⟩
  unfold idxU at hp
  split at hp
  · rename_i z
    split at hp
    · rename_i ys ey
      rw [Option.bind_eq_some_iff] at ey
      obtain ⟨ws, e1, e2⟩ := ey
      obtain ⟨a, xs, rfl, h1, h2⟩ := lsU_at ok rx e1
      obtain rfl := strsU_rep h2 e2
      split at hp
      · rename_i j ej
        obtain ⟨k1, k2⟩ := idxOf_some ej
        obtain ⟨v, rfl, rz⟩ := one_rep rv
        cases rz
        refine ⟨a, _, .str z, j, .str z, rfl, rfl, SqL.of h1, rfl, flat_strs ys, by rw [List.getElem?_map, k1]; rfl, by rw [eqV_str]; simp, fun m z' hm hz => ?_, Pg.nowD ok .int hp⟩
        rw [List.getElem?_map, Option.map_eq_some_iff] at hz
        obtain ⟨y, e3, rfl⟩ := hz
        rw [eqV_str]
        have : y ≠ z := fun e => k2 m hm (by rw [e3, e])
        simpa using this
      · exact hp.elim
    · exact hp.elim
  · exact hp.elim
end
end HB
end
section
set_option Elab.async false
set_option linter.all false
set_option maxRecDepth 100000
set_option maxHeartbeats 4000000
/-! facts of a head by Bool functions of the fragment -/
namespace HB
open PySem PySem.Spec L2
open PyProof.Rows hiding St
open He (ga ma eqO eqO_ok ba)
abbrev Fg := PySem.W.Frag
abbrev FB := Fg → Bool
def gloB (x : Str) : FB := fun K => eqO (PySem.W.nsIn K mainGlobals x) (some (some (.ref (ga K x))))
def freeB (x : Str) : FB := fun K => eqO (PySem.W.nsIn K mainGlobals x) (some none)
def intB (x : Str) (i : Int) : FB := fun K => (He.Fa.int x i).ok K
def strB (x z : Str) : FB := fun K => (He.Fa.str x z).ok K
def clsB (x : Str) : FB := fun K => (He.Fa.cls x).ok K
def noatB (x f : Str) : FB := fun K => (He.Fa.noat x f).ok K
def methB (x m : Str) : FB := fun K => (He.Fa.meth x m).ok K
def mkrB (x : Str) : FB := fun K => (He.Fa.mkr x).ok K
def keepB (x : Str) : FB := fun K => PySem.W.keepIn K (.ref (ga K x))
def exmB (x y : Str) (b : Bool) : FB := fun K => (He.Fa.exm x y b).ok K
def tupsB (x : Str) (vs : List He.Dv) : FB := fun K => He.tupB K x vs
def tupKB (x : Str) : FB := fun K => tupK K x
/-- an own error class over ValueError, made by its __init__ -/
def oexB (x : Str) : FB := fun K => (match K.lookup (ga K x) with
  | some ⟨.type t, _, .cls cd, sl⟩ => (match cd.mro, sl.toList with
    | .ref C' :: bm, [_, _, _, _, some (.builtin n), _] => decide (t = "type") && (decide (C' = ga K x) && (decide (n = "ValueError.__new__") && (!cd.hasDel && (cd.hasDict && PySem.HandSPX.refsVE bm))))
    | _, _ => false)
  | _ => false) && (eqO (PySem.W.findIn K (.ref (ga K x)) "__setattr__") (some (some (.builtin "object.__setattr__"))) && (decide (PySem.W.subIn K (.ref (ga K x)) (.type "BaseException") = some true) && (decide (PySem.W.typeIn K (.ref (ga K x)) = some (.type "type")) && PySem.W.keepIn K (.ref (ga K x)))))
theorem oexB_ok {K : Fg} {x : Str} (h : oexB x K = true) : OexC K (ga K x) := by
  obtain ⟨h0, h⟩ := ba h
  obtain ⟨h1, h⟩ := ba h
  obtain ⟨h2, h⟩ := ba h
  obtain ⟨h3, h4⟩ := ba h
  refine ⟨?_, eqO_ok h1, of_decide_eq_true h2, of_decide_eq_true h3, h4⟩
  clear h1 h2 h3 h4
  split at h0
  · rename_i t dd cd sl ho
    split at h0
    · rename_i C' bm k0 k1 k2 k3 n k5 hm hs
      obtain ⟨e0, h0⟩ := ba h0
      obtain ⟨e1, h0⟩ := ba h0
      obtain ⟨e2, h0⟩ := ba h0
      obtain ⟨e3, h0⟩ := ba h0
      obtain ⟨e4, e5⟩ := ba h0
      have e0 := of_decide_eq_true e0
      have e1 := of_decide_eq_true e1
      have e2 := of_decide_eq_true e2
      obtain ⟨nm, bs, mro, ns, qn, hd, sn, sub, ab, col, del⟩ := cd
      dsimp only at hm e3 e4
      have e3 : del = false := by simpa using e3
      obtain ⟨l⟩ := sl
      simp only at hs
      subst hm e3 e4 hs e0 e1 e2
      exact ⟨nm, qn, ns, bs, bm, sn, sub, ab, col, dd, k0, k1, k2, k3, k5, ho, e5⟩
    · cases h0
  · cases h0
/-- its __init__ -/
def oiniB (x : Str) : FB := fun K => eqO (PySem.W.findIn K (.ref (ga K x)) "__init__") (some (some (.ref (ma K (ga K x) "__init__")))) && decide (PySem.W.typeIn K (.ref (ma K (ga K x) "__init__")) = some (.type "function"))
theorem oiniB_ok {K : Fg} {x : Str} (h : oiniB x K = true) : PySem.W.findIn K (.ref (ga K x)) "__init__" = some (some (.ref (ma K (ga K x) "__init__"))) ∧ PySem.W.typeIn K (.ref (ma K (ga K x) "__init__")) = some (.type "function") := by
  obtain ⟨h1, h2⟩ := ba h
  exact ⟨eqO_ok h1, of_decide_eq_true h2⟩
def xfB' (x : Str) : FB := fun K => xfB K (ga K x)
/-- a property's getter -/
def gtr (K : Fg) (C : Addr) (f : Str) : Addr := match PySem.W.recIn K (ma K C f) "property" with
  | some (.ref g :: _) => g
  | _ => 0
def propB (x f : Str) : FB := fun K => eqO (PySem.W.findIn K (.ref (ga K x)) f) (some (some (.ref (ma K (ga K x) f)))) && (eqO (PySem.W.specialIn K (.ref (ma K (ga K x) f)) "__get__") (some (some (.builtin "property.__get__"))) && (decide (PySem.W.takesIn K (.ref (ma K (ga K x) f)) = some true) && (match PySem.W.recIn K (ma K (ga K x) f) "property" with
  | some (.ref _ :: _) => true
  | _ => false)))
theorem propB_ok {K : Fg} {x f : Str} (h : propB x f K = true) : PropOf K (ga K x) f (ma K (ga K x) f) (gtr K (ga K x) f) := by
  obtain ⟨h1, h⟩ := ba h
  obtain ⟨h2, h⟩ := ba h
  obtain ⟨h3, h4⟩ := ba h
  refine ⟨eqO_ok h1, eqO_ok h2, of_decide_eq_true h3, ?_⟩
  unfold gtr
  split at h4
  · rename_i g rest e
    rw [e]
    exact ⟨rest, rfl⟩
  · cases h4
/-- attributes of a class -/
def creadB (x : Str) : FB := fun K => PySem.W.readsIn K (ga K x) (.type "type") && eqO (PySem.W.specialIn K (.ref (ga K x)) "__getattribute__") (some (some (.builtin "type.__getattribute__")))
theorem creadB_ok {K : Fg} {x : Str} (h : creadB x K = true) : ClX.CRead K (ga K x) (.type "type") := by
  obtain ⟨h1, h2⟩ := ba h
  exact ⟨h1, eqO_ok h2⟩
def cintB (x f : Str) (i : Int) : FB := fun K => match PySem.W.findCls K (.ref (ga K x)) (.type "type") f with
  | some (.val (.int j _)) => decide (j = i)
  | _ => false
theorem cintB_ok {K : Fg} {x f : Str} {i : Int} (h : cintB x f i K = true) : ∃ t, ClX.CVal K (ga K x) (.type "type") f (.int i) (.int i t) := by
  unfold cintB at h
  split at h
  · rename_i j t e
    have ej : j = i := of_decide_eq_true h
    subst ej
    exact ⟨t, e, t, rfl⟩
  · cases h
/-- the tuple at an address -/
def tupAB (a : Fg → Addr) (vs : List He.Dv) : FB := fun K => match K.lookup (a K) with
  | some ⟨.type c, _, .seq its _, _⟩ => decide (c = "tuple") && (decide (its.size ≤ sizeLine) && He.relAll (vs.map (He.Dv.v K)) its.toList)
  | _ => false
theorem tupAB_ok {K : Fg} {a : Fg → Addr} {vs : List He.Dv} (h : tupAB a vs K = true) (H : Hp) : SqT K H (a K) (vs.map (He.Dv.v K)) := by
  unfold tupAB at h
  split at h
  · rename_i c dd its n sl q
    obtain ⟨h1, h2⟩ := ba h
    obtain ⟨h3, h4⟩ := ba h2
    exact .inr ⟨_, its, n, q, congrArg Value.type (of_decide_eq_true h1), rfl, of_decide_eq_true h3, He.relAll_ok h4⟩
  · cases h
/-! ### the Hook -/
def obsB (bs : List FB) (fn : List He5.DefA) (K : Fg) : He.AlD := ((bs.all fun f => f K) && fn.all fun d => d.ok K, fn.map fun d => He5.fnA K (d.at_ K))
def valB (fn : List He5.DefA) : He.AlD := (true, fn.map He5.DefA.val)
def SaysB (bs : List FB) (fn : List He5.DefA) (K : Fg) : Prop := obsB bs fn K = valB fn
def obsBG (n : Nat) (bs : List FB) (fn : List He5.DefA) (g : Addr → Option Obj) : He.AlD := obsB bs fn (He.frG g (He5.asA g n))
def hookB (n : Nat) (bs : List FB) (fn : List He5.DefA) : PySem.W.Hook where
  α := He.AlD
  obs := fun s => obsBG n bs fn s.heap.get?
  val := fun _ => valB fn
  says := fun _ h => ∃ K : Fg, K.In h ∧ SaysB bs fn K
  of := fun _ _ e => ⟨_, He.frG_in, e⟩
  keeps := fun _ _ _ ⟨K, hK, c⟩ k => ⟨K, PySem.W.Frag.In.keeps hK k, c⟩
theorem obsBG_eq {n : Nat} {bs : List FB} {fn : List He5.DefA} {g : Addr → Option Obj} {s : Shared} (h : ∀ a, g a = s.heap.get? a) : obsBG n bs fn g = (hookB n bs fn).obs s := by
  have e : g = s.heap.get? := funext h
  rw [e] <;> rfl
section
variable {bs : List FB} {fn : List He5.DefA} {K : Fg}
theorem SaysB.fact (c : SaysB bs fn K) (i : Nat) {f : FB} (h : bs[i]? = some f := by rfl) : f K = true := by
  have c1 := (ba (show ((bs.all fun f => f K) && fn.all fun d => d.ok K) = true from congrArg (fun z : He.AlD => z.1) c)).1
  exact List.all_eq_true.mp c1 f (List.mem_of_getElem? h)
/-- the def at an address -/
def fdOf (K : Fg) (a : Addr) : FuncData := match K.lookup a with
  | some ⟨_, _, .func fd, _⟩ => fd
  | _ => default
theorem funD_at {x qual : Str} {params : Arguments} {body : List Stmt} {scope : Scope} {dvs : List V} {kws : List (Str × V)} {f : Addr} {fd : FuncData} (F : FunD K x qual params body scope dvs kws f fd) : FunD K x qual params body scope dvs kws f (fdOf K f) := by
  have e : fdOf K f = fd := by
    obtain ⟨oc, od, dV, kV, doc, pm, an, cdv, ct, osl, rfl, lk, _⟩ := F.ex
    unfold fdOf
    rw [lk]
  rw [e]
  exact F
theorem SaysB.def_ (c : SaysB bs fn K) (i : Nat) {d : He5.DefA} (h : fn[i]? = some d := by rfl) : FunD K d.name d.qual d.params d.body d.scope (d.dvs K) (d.kws K) (d.at_ K) (fdOf K (d.at_ K)) := by
  have c2 := (ba (show ((bs.all fun f => f K) && fn.all fun d => d.ok K) = true from congrArg (fun z : He.AlD => z.1) c)).2
  have e : fn.map (fun d => He5.fnA K (d.at_ K)) = fn.map He5.DefA.val := congrArg (fun z : He.AlD => z.2) c
  have e2 : (fn.map fun d => He5.fnA K (d.at_ K))[i]? = (fn.map He5.DefA.val)[i]? := by rw [e]
  rw [List.getElem?_map, List.getElem?_map, h] at e2
  obtain ⟨fd, F⟩ := He5.DefA.funD (Option.some.inj e2) (List.all_eq_true.mp c2 d (List.mem_of_getElem? h))
  exact funD_at F
end
/-! ### small helps for the printed texts -/
theorem fld1 {K : Fg} {c f : Str} (h1 : Cls K (ga K c)) (h2 : NoAttr K (ga K c) f) : FldOk K [c] f := fun c' hc => by
  obtain rfl := List.mem_singleton.mp hc
  exact ⟨h1, h2⟩
theorem fld2 {K : Fg} {c d f : Str} (h1 : Cls K (ga K c)) (h2 : NoAttr K (ga K c) f) (h3 : Cls K (ga K d)) (h4 : NoAttr K (ga K d) f) : FldOk K [c, d] f := fun c' hc => by
  rcases List.mem_cons.mp hc with rfl | hc
  · exact ⟨h1, h2⟩
  · obtain rfl := List.mem_singleton.mp hc
    exact ⟨h3, h4⟩
end HB
end
section
set_option Elab.async false
set_option linter.all false
set_option maxRecDepth 100000
set_option maxHeartbeats 4000000
namespace HB
open PySem PySem.Spec L2
open PyProof.Rows hiding St
open Evl (Ex ex_t ex_l ex_rd)
section
variable {X : Cx} {W : WX}
/-! ### n op= e, ints -/
def sAug (i : Nat) (h : Int → Int → Int) (f : DEnv → Store → Out U) : DEnv → Store → OutS := fun δ μ => match δ[i]? with
  | some (some (.d (.int k))) => sBind f (fun u δ μ1 => match u with
    | .d (.int j) => .nx (δ.set i (some (.d (.int (h k j))))) μ1
    | _ => .stuck) δ μ
  | _ => .stuck
theorem ds_aug {i : Nat} {x : Str} {e : Expr} {op : Operator} {h : Int → Int → Int} {f : DEnv → Store → Out U} {pos' pos : Pos} (ho : OpR X (inplaceOp op) (rI0 fun i j => .int (h i j))) (hN : X.N.Nodup) (hi : X.N[i]? = some x) (hx : Loc X.env.scope x) (he : DE X W e f) (hf : X.fn x = true ∨ X.env.scope.names.lookup x = some .local := by first | exact .inl rfl | exact .inr rfl | assumption) :
    DS X W (.AugAssign (.Name x pos') op e pos) (sAug i h f) := by
  obtain ⟨t, p, j⟩ := he
  refine ⟨_, ps_aug hN hi hx p ho hf, fun G α H σ δ μ N ok re hp => ?_⟩
  unfold sAug at hp
  split at hp
  · rename_i k ek
    obtain ⟨v, ev, rv⟩ := re.at_ i _ ek
    cases rv
    refine ⟨_, ev, j G α H σ δ μ _ ok re (PgS.bind re hp fun u μ1 v G1 α1 H1 ok1 s1 r1 h1 => ?_)⟩
    split at h1
    · cases r1
      exact ⟨_, _, rfl, rfl, h1 _ G1 α1 H1 ok1 (Stp.refl _ _ _) ((re.step s1).set i (show RepU X.K G1 α1 (.int _) (.d (.int _)) from .int))⟩
    · exact h1.elim
  · exact hp.elim
end
/-! ### a suite does not depend on where the exception lies -/
theorem eXf_ind (a : Addr) (d : Option Addr) (x : Err) (h n : Str) (i : Nat) (δ : DEnv) (μ : Store) : eXf a d x h n i (δ.set i (some (.exc a d x))) μ = eXf 0 none x h n i (δ.set i (some (.exc 0 none x))) μ := by
  unfold eXf
  by_cases hl : i < δ.length
  · simp [List.getElem?_set_self hl]
  · rw [List.getElem?_eq_none (by rw [List.length_set]; omega), List.getElem?_eq_none (by rw [List.length_set]; omega)]
theorem eVar_ind {i j : Nat} (hj : j ≠ i) (u w : U) (δ : DEnv) (μ : Store) : eVar j (δ.set i (some u)) μ = eVar j (δ.set i (some w)) μ := by
  unfold eVar
  rw [List.getElem?_set_ne (Ne.symm hj), List.getElem?_set_ne (Ne.symm hj)]
theorem ind_ret {i : Nat} {f g : DEnv → Store → Out U} {δ δ' : DEnv} {μ : Store} (h : f δ μ = g δ' μ) : unsetS i (sRet f δ μ) = unsetS i (sRet g δ' μ) := by
  unfold sRet sBind
  rw [h]
  cases g δ' μ <;> rfl
def exmdB (c h : Str) : FB := fun K => decide (PySem.W.exmOne K (.ref (He.ga K c)) (.ref (He.ga K h)) = some (exmD c h))
theorem exmdB_ok {K : Fg} {c h : Str} (e : exmdB c h K = true) : PySem.W.exmOne K (.ref (He.ga K c)) (.ref (He.ga K h)) = some (exmD c h) := of_decide_eq_true e
theorem all_nil {β : Type} {P : β → Prop} : ∀ c ∈ ([] : List β), P c := fun _ h => nomatch h
theorem all_cons {β : Type} {P : β → Prop} {a : β} {l : List β} (h : P a) (r : ∀ c ∈ l, P c) : ∀ c ∈ a :: l, P c := fun c hc => by
  rcases List.mem_cons.mp hc with e | hc
  · rw [e]
    exact h
  · exact r c hc
end HB
namespace HB
open PySem PySem.Spec L2
open PyProof.Rows hiding St
open Evl (Ex ex_t ex_l ex_rd)
/-- the law's promise at the script, from the plain statement -/
theorem rep_ints {K : Fg} {G : Hp} : ∀ ns : List Int, RepL K G (ns.map V.int) (ns.map D.int)
  | [] => .nil
  | _ :: r => .cons .int (rep_ints r)
theorem sp_law {K : Fg} {g : List U → Store → Out U} {H : Hp} {a : Addr} {ns : List Int} (hS : SqL K H a (ns.map V.int)) (h : ∃ μ, g [.d (.fl (ns.map D.int))] [] = .ok (.d (.bl true)) μ) : SpU K g [.ref a] H (fun v _ => v = .bl true) (fun _ _ _ => False) := by
  obtain ⟨μ, e⟩ := h
  refine ⟨H, [], [], [.d (.fl (ns.map D.int))], ⟨Ex.refl H, rfl, by simp, fun n a c h => by simp at h⟩, .cons (Rep.fl hS (rep_ints ns)) .nil, ?_⟩
  rw [e]
  intro v G' α' H' ok st rv
  cases rv
  rfl
end HB
end
section
set_option Elab.async false
set_option linter.all false
set_option maxRecDepth 100000
set_option maxHeartbeats 4000000
namespace HB
open PySem PySem.Spec L2
open PyProof.Rows hiding St
/-! ### in, deep -/
def anyP (p : PyData) (qs : List PyData) : Bool := qs.any fun z => PyData.eqv z p
def inP (n : Bool) : U → U → Store → Out U := fun u w μ => match deepU μ u, deepU μ w with
  | some a, some b => (match toPy a, toPy b with
    | some p, some (.list qs) => guard (SeqAt.shaped p && SeqAt.shaped (.list qs)) (.ok (.d (.bl (neg n (anyP p qs)))) μ)
    | _, _ => .stuck)
  | _, _ => .stuck
section
variable {X : Cx} {W : WX}
theorem ob_inP (hu : X.A.units + 65 < cLine) : OpB X W (compareOp .In) (inP false) := by
  refine ⟨_, op_inD hu, fun G α H σ μ x y ux uy Q ok rx ry hp => ?_⟩
  unfold inP at hp
  split at hp
  · rename_i a b e1 e2
    split at hp
    · rename_i p qs e3 e4
      obtain ⟨h1, h2⟩ := hp.guard
      obtain ⟨h3, h4⟩ := Bool.and_eq_true_iff.mp h1
      exact ⟨p, qs, deepU_dp ok rx e1 e3, deepU_dp ok ry e2 e4, h3, h4, Pg.nowD ok .bl h2⟩
    · exact hp.elim
  · exact hp.elim
theorem ob_ninP (hu : X.A.units + 65 < cLine) : OpB X W (compareOp .NotIn) (inP true) := by
  refine ⟨_, op_notInD hu, fun G α H σ μ x y ux uy Q ok rx ry hp => ?_⟩
  unfold inP at hp
  split at hp
  · rename_i a b e1 e2
    split at hp
    · rename_i p qs e3 e4
      obtain ⟨h1, h2⟩ := hp.guard
      obtain ⟨h3, h4⟩ := Bool.and_eq_true_iff.mp h1
      exact ⟨p, qs, deepU_dp ok rx e1 e3, deepU_dp ok ry e2 e4, h3, h4, Pg.nowD ok .bl h2⟩
    · exact hp.elim
  · exact hp.elim
abbrev inX : U → U → Store → Out U := orO inU (inP false)
abbrev ninX : U → U → Store → Out U := orO ninU (inP true)
theorem u65 {n : Nat} (h : n + 70 < cLine) : n + 65 < cLine := by omega
theorem ob_inX (hu : X.A.units + 70 < cLine) : OpB X W (compareOp .In) inX := ob_in.or (ob_inP (u65 hu))
theorem ob_ninX (hu : X.A.units + 70 < cLine) : OpB X W (compareOp .NotIn) ninX := ob_nin.or (ob_ninP (u65 hu))
/-! ### raise X() of a class without __init__ -/
abbrev veMro : List Value := [.type "ValueError", .type "Exception", .type "BaseException", .type "object"]
structure XCls0 (K : PySem.W.Frag) (mg : Str → Option Value) (c : Str) : Prop where
  ex : PySem.W.excIn K (He.ga K c) veMro "ValueError.__new__" = true
  kp : PySem.W.keepIn K (.ref (He.ga K c)) = true
  sb : PySem.W.subIn K (.ref (He.ga K c)) (.type "BaseException") = some true
  ty : PySem.W.typeIn K (.ref (He.ga K c)) = some (.type "type")
def exc0B (x : Str) : FB := fun K => (PySem.W.excIn K (He.ga K x) veMro "ValueError.__new__" && PySem.W.keepIn K (.ref (He.ga K x))) && (decide (PySem.W.subIn K (.ref (He.ga K x)) (.type "BaseException") = some true) && decide (PySem.W.typeIn K (.ref (He.ga K x)) = some (.type "type")))
theorem exc0B_ok {K : Fg} {mg : Str → Option Value} {x : Str} (h : exc0B x K = true) : XCls0 K mg x := by
  unfold exc0B at h
  simp only [Bool.and_eq_true, decide_eq_true_eq] at h
  exact ⟨h.1.1, h.1.2, h.2.1, h.2.2⟩
theorem pmk_own0 {C : Addr} {bmB : List Value} {B newId initId : String} {x : Str} {p pos : Pos} (F : ExcBaseFacts B newId initId bmB) (q : PySem.W.excIn X.K C bmB newId = true) (gC : X.mg x = some (.ref C)) (kC : PySem.W.keepIn X.K (.ref C) = true) (r : Raises X (.ref C)) (hg : Gl X x) (hdb : (x == ("__debug__" : Str)) = false := by decide) :
    PMk X (.Call (.Name x p) [] [] pos) (fun _ H Q => Q (.ref C) none H) := by
  intro pins s σ H Q I h
  refine wpAny_Call_Name_kw (ld_glob I hg gC ?_ hdb)
  refine PySem.W.callWith_KW0 (h₀ := X.base) I.ok.mod.kin kC rfl ?_ rfl
  refine thn (pk_nil.run pos pins s σ H (fun zs H2 => zs = [] ∧ H = H2) I ⟨rfl, rfl⟩) ?_
  rintro ws s2 ⟨zs, H2, I2, rz, rfl, rfl⟩
  refine ⟨I2.kIn, ?_⟩
  show wpAny _ _ (call (.ref C) []) _ _ _
  obtain ⟨bm, N, nm, qn, bs, hdct, sn, sub, ab, col, dd, k0, k1, k2, k3, k5, mN, hC, hN, hni, T⟩ := exc_obj I2.kIn q
  refine wpAny_call_exc_subT F T hC hN hni (fun h' e hm => ?_) (Nat.zero_le _)
  exact mk_of I2 hm r h (I2.hok.gone hm.new)
def sRaise0 (c : Str) : DEnv → Store → OutS := fun δ μ => .err ⟨c, [], []⟩ δ μ
theorem ds_raise0 {c : Str} {p pos pos2 : Pos} (T : XCls0 X.K X.mg c) (hm : X.mg c = some (.ref (He.ga X.K c))) (hc : X.calm = true) (tk : Takes X W) (hg : Gl X c) (hdb : (c == ("__debug__" : Str)) = false := by decide) :
    DS X W (.Raise (some (.Call (.Name c p) [] [] pos)) none pos2) (sRaise0 c) := by
  refine ⟨_, ps_raise hc tk (pmk_own0 PySem.F.excBase_ValueError T.ex hm T.kp (raises_own T.sb T.ty) hg hdb), fun G α H σ δ μ N ok re h => ?_⟩
  exact h none σ G α H ok (Stp.refl _ _ _) re rfl
end
end HB
end
section
set_option Elab.async false
set_option linter.all false
set_option maxRecDepth 100000
set_option maxHeartbeats 4000000
/-! ### walks over a list that may be changed at other times: it stands still meanwhile -/
namespace HB
open PySem PySem.Spec L2
open PyProof.Rows hiding St
open Evl (Ex ex_t ex_l ex_rd)
open Classical in
noncomputable def still (n : Nat) (us : List U) (μ : Store) : Bool := decide (μ[n]? = some (.lst us))
theorem still_ok {n : Nat} {us : List U} {μ : Store} (h : still n us μ = true) : μ[n]? = some (.lst us) := by simpa [still] using h
theorem still_of {n : Nat} {us : List U} {μ : Store} (h : μ[n]? = some (.lst us)) : still n us μ = true := by simpa [still] using h
def guardS (b : Bool) (r : OutS) : OutS := match b with
  | true => r
  | false => .stuck
theorem PgS.guardS {K : PySem.W.Frag} {G : Hp} {α : List Addr} {H : Hp} {b : Bool} {r : OutS} {N : Ends} {W : WX} (h : PgS K G α H (guardS b r) N W) : b = true ∧ PgS K G α H r N W := by
  cases b with
  | true => exact ⟨rfl, h⟩
  | false => exact h.elim
noncomputable def forO (n : Nat) (us0 : List U) (g : U → DEnv → Option DEnv) (body : DEnv → Store → OutS) : List U → DEnv → Store → OutS
  | [], δ, μ => guardS (still n us0 μ) (.nx δ μ)
  | u :: r, δ, μ => guardS (still n us0 μ) (match g u δ with
    | none => .stuck
    | some δ1 => match body δ1 μ with
      | .nx δ2 μ2 => forO n us0 g body r δ2 μ2
      | .cnt δ2 μ2 => forO n us0 g body r δ2 μ2
      | .brk δ2 μ2 => .nx δ2 μ2
      | .ret w μ2 => .ret w μ2
      | .err x δ2 μ2 => .err x δ2 μ2
      | .stuck => .stuck)
def WkC (K : PySem.W.Frag) (G : Hp) (α : List Addr) (J : It) (n : Nat) (us : List U) : Prop := ∀ G1 α1 H1 μ1 i, Ok K G1 α1 H1 μ1 → Ex G G1 → (∃ β, α1 = α ++ β) → μ1[n]? = some (.lst us) →
  (∀ u, us[i]? = some u → J.go i H1 ∧ ∀ x H', J.yld i H1 x H' → ∃ G2, Ok K G2 α1 H' μ1 ∧ Stp G1 α1 H1 G2 α1 H' ∧ RepU K G2 α1 x u) ∧ (us.length ≤ i → J.stop i H1)
section
variable {X : Cx} {W : WX}
theorem forO_turn {K : PySem.W.Frag} {G G1 : Hp} {α α1 : List Addr} {H H1 : Hp} {σ : St} {δ : DEnv} {μ : Store} {n : Nat} {us0 : List U} {g : U → DEnv → Option DEnv} {body : DEnv → Store → OutS} {u : U} {r : List U} {N : Ends} {tg : TG} {tb : TS} {v : V} {Pn : St → Hp → Prop}
    (ok : Ok K G1 α1 H1 μ) (st : Stp G α H G1 α1 H1) (re : RepE K G1 α1 σ δ) (rv : RepU K G1 α1 v u) (jg : JG K tg g) (jb : JS K W tb body) (hp : PgS K G α H (forO n us0 g body (u :: r) δ μ) N W)
    (hn : ∀ δ2 μ2 σ2 G2 α2 H2, Ok K G2 α2 H2 μ2 → Stp G α H G2 α2 H2 → RepE K G2 α2 σ2 δ2 → PgS K G α H (forO n us0 g body r δ2 μ2) N W → Pn σ2 H2) :
    tg v σ H1 fun σ2 H2 => tb { N with nx := Pn, ct := Pn, bk := N.nx } σ2 H2 := by
  unfold forO at hp
  obtain ⟨_, hp⟩ := hp.guardS
  split at hp
  · exact hp.elim
  · rename_i δ1 e
    refine jg G1 α1 H1 σ δ δ1 μ v u _ ok re rv e fun σ' re' => jb G1 α1 H1 σ' δ1 μ _ ok re' ?_
    cases eb : body δ1 μ with
    | nx δ2 μ2 =>
      rw [eb] at hp
      exact fun σ2 G2 α2 H2 ok2 s2 re2 => hn δ2 μ2 σ2 G2 α2 H2 ok2 (st.trans s2) re2 hp
    | cnt δ2 μ2 =>
      rw [eb] at hp
      exact fun σ2 G2 α2 H2 ok2 s2 re2 => hn δ2 μ2 σ2 G2 α2 H2 ok2 (st.trans s2) re2 hp
    | brk δ2 μ2 =>
      rw [eb] at hp
      exact fun σ2 G2 α2 H2 ok2 s2 re2 => hp σ2 G2 α2 H2 ok2 (st.trans s2) re2
    | ret w μ2 =>
      rw [eb] at hp
      exact fun v2 G2 α2 H2 ok2 s2 r2 => hp v2 G2 α2 H2 ok2 (st.trans s2) r2
    | err x δ2 μ2 =>
      rw [eb] at hp
      exact fun dd σ2 G2 α2 H2 ok2 s2 re2 xr => hp dd σ2 G2 α2 H2 ok2 (st.trans s2) re2 xr
    | stuck =>
      rw [eb] at hp
      exact hp.elim
def LInvO (K : PySem.W.Frag) (W : WX) (G : Hp) (α : List Addr) (H : Hp) (N : Ends) (n : Nat) (g : U → DEnv → Option DEnv) (body : DEnv → Store → OutS) (us : List U) (i : Nat) (σ : St) (H' : Hp) : Prop :=
  ∃ G' α' δ μ, Ok K G' α' H' μ ∧ Stp G α H G' α' H' ∧ RepE K G' α' σ δ ∧ PgS K G α H (forO n us g body (us.drop i) δ μ) N W
theorem for_wkO {K : PySem.W.Frag} {G : Hp} {α : List Addr} {H : Hp} {σ : St} {δ : DEnv} {μ : Store} {n : Nat} {g : U → DEnv → Option DEnv} {body : DEnv → Store → OutS} {us : List U} {N : Ends} {tg : TG} {tb : TS} {J : It} (jg : JG K tg g) (jb : JS K W tb body) (wk : WkC K G α J n us) (ok : Ok K G α H μ) (re : RepE K G α σ δ)
    (hp : PgS K G α H (forO n us g body us δ μ) N W) : ∃ Wd : Nat → Nat → St → Hp → Prop, (∃ m, Wd 0 m σ H) ∧ ∀ i m σ H, Wd i m σ H →
      (J.stop i H ∧ N.nx σ H) ∨ (J.go i H ∧ ∃ Nn : St → Hp → Prop, (∀ σ' H', Nn σ' H' → ∃ m', m' < m ∧ Wd (i + 1) m' σ' H') ∧ ∀ x H', J.yld i H x H' → tg x σ H' fun σ2 H2 => tb { N with nx := Nn, ct := Nn, bk := N.nx } σ2 H2) := by
  refine ⟨fun i m σ' H' => m = us.length - i ∧ i ≤ us.length ∧ LInvO K W G α H N n g body us i σ' H', ⟨us.length, by simp, Nat.zero_le _, G, α, δ, μ, ok, Stp.refl _ _ _, re, hp⟩, ?_⟩
  rintro i m σ' H' ⟨rfl, hi, li⟩
  obtain ⟨G1, α1, δ1, μ1, ok1, st1, re1, hp1⟩ := li
  by_cases hlt : i < us.length
  · have hu : us[i]? = some us[i] := List.getElem?_eq_getElem hlt
    rw [drop_at hu] at hp1
    have hs : still n us μ1 = true := by
      unfold forO at hp1
      exact hp1.guardS.1
    obtain ⟨w1, _⟩ := wk G1 α1 H' μ1 i ok1 st1.g st1.a (still_ok hs)
    obtain ⟨w2, w3⟩ := w1 _ hu
    refine .inr ⟨w2, LInvO K W G α H N n g body us (i + 1), fun σ2 H2 p2 => ⟨us.length - (i + 1), by omega, rfl, hlt, p2⟩, fun x H2 y => ?_⟩
    obtain ⟨G2, ok2, st2, rv⟩ := w3 x H2 y
    exact forO_turn ok2 (st1.trans st2) (re1.step st2) rv jg jb hp1 fun δ2 μ2 σ2 G3 α3 H3 ok3 s3 re3 hp3 => ⟨G3, α3, δ2, μ2, ok3, s3, re3, hp3⟩
  · have e : i = us.length := by omega
    subst e
    rw [List.drop_length] at hp1
    unfold forO at hp1
    obtain ⟨hs, hp1⟩ := hp1.guardS
    exact .inl ⟨(wk G1 α1 H' μ1 us.length ok1 st1.g st1.a (still_ok hs)).2 (Nat.le_refl _), hp1 σ' G1 α1 H' ok1 st1 re1⟩
abbrev ρIO (K : PySem.W.Frag) : Hp → List Addr → It → Nat × List U → Prop := fun G α J p => WkC K G α J p.1 p.2
def DIO (X : Cx) (W : WX) (tg iter : Expr) (f : DEnv → Store → Out (Nat × List U)) : Prop := ∃ wi : TI, PI X tg iter wi ∧ J (ρIO X.K) X.K W wi f
noncomputable def sForO (g : U → DEnv → Option DEnv) (f : DEnv → Store → Out (Nat × List U)) (body : DEnv → Store → OutS) : DEnv → Store → OutS := sBind f fun p δ μ => forO p.1 p.2 g body p.2 δ μ
theorem ds_forO {tg iter : Expr} {body : List Stmt} {f : DEnv → Store → Out (Nat × List U)} {g : U → DEnv → Option DEnv} {b : DEnv → Store → OutS} {pos : Pos} (hp : PassesOwn (model X.prog X.w) X.A X.env X.xe) (hc : X.calm = true) (hi : DIO X W tg iter f) (hg : DG X tg g) (hb : DSs X W body b)
    (hs : ∀ x, foldedSetIterable iter X.env x = pure x := by intro _; rfl) : DS X W (.For tg iter body [] pos) (sForO g f b) := by
  obtain ⟨wi, pi, ji⟩ := hi
  obtain ⟨tg', pg, jg⟩ := hg
  obtain ⟨tb, pb, jb⟩ := hb
  refine ⟨_, ps_for hp hc pi pg pb hs, fun G α H σ δ μ N ok re h => ?_⟩
  exact ji G α H σ δ μ _ ok re (PgS.bind re h fun p μ1 J G1 α1 H1 ok1 s1 wk h1 => for_wkO jg jb wk ok1 (re.step s1) h1)
/-- the items of a list that may be changed -/
def iO (f : DEnv → Store → Out U) : DEnv → Store → Out (Nat × List U) := fun δ μ => (f δ μ).bind fun u μ1 => match u with
  | .own n => (match μ1[n]? with
    | some (.lst us) => .ok (n, us) μ1
    | _ => .stuck)
  | _ => .stuck
theorem wk_own {K : PySem.W.Frag} {G : Hp} {α : List Addr} {a : Addr} {n : Nat} {us : List U} (hn : α[n]? = some a) : WkC K G α (Itl K a) n us := fun G1 α1 H1 μ1 i ok e pa hs => by
  obtain ⟨β, rfl⟩ := pa
  obtain ⟨_, xs, hx, r⟩ := ok.cell n a _ (pre_get hn) hs
  have h1 : SqL K H1 a xs := SqL.of hx
  refine ⟨fun u hu => ?_, fun hl => ⟨xs, h1, by rw [r.length]; exact hl⟩⟩
  obtain ⟨v, hv, rv⟩ := RepUL.get r i u hu
  refine ⟨⟨xs, v, h1, hv⟩, fun x H' y => ?_⟩
  obtain ⟨rfl, y⟩ := y
  have ex : x = v := by
    have := y xs h1
    rw [hv] at this
    exact (Option.some.inj this).symm
  subst ex
  exact ⟨G1, ok, Stp.refl _ _ _, rv⟩
theorem di_o {tg l : Expr} {f : DEnv → Store → Out U} (hl : DE X W l f) : DIO X W tg l (iO f) := by
  obtain ⟨t, p, j⟩ := hl
  refine ⟨_, pi_any p, fun G α H σ δ μ Q ok re hp => ?_⟩
  refine j G α H σ δ μ _ ok re (hp.bind fun u μ1 v G1 α1 H1 ok1 s1 r1 hp1 => ?_)
  cases u with
  | d x => exact hp1.elim
  | exc a dd x => exact hp1.elim
  | own n =>
    dsimp only at hp1
    split at hp1
    · rename_i us e
      obtain ⟨a, h1, rfl⟩ := r1
      obtain ⟨_, xs, hx, r⟩ := ok1.cell n a _ h1 e
      exact .inl ⟨_, rfl, ⟨_, SqL.of hx⟩, hp1 _ _ _ _ ok1 (Stp.refl _ _ _) (wk_own h1)⟩
    · exact hp1.elim
noncomputable def lcO (n : Nat) (us0 : List U) (g : U → DEnv → Option DEnv) (tt : DEnv → Store → Out Bool) (te : DEnv → Store → Out U) (δ : DEnv) : List U → List U → Store → Out (List U)
  | [], acc, μ => guard (still n us0 μ) (.ok acc μ)
  | u :: r, acc, μ => guard (still n us0 μ) (match g u δ with
    | none => .stuck
    | some δ1 => (noErr (tt δ1 μ)).bind fun b μ1 => match b with
      | true => (noErr (te δ1 μ1)).bind fun y μ2 => guard (fits acc.length) (lcO n us0 g tt te δ r (acc ++ [y]) μ2)
      | false => lcO n us0 g tt te δ r acc μ1)
noncomputable def eLcO (g : U → DEnv → Option DEnv) (fi : DEnv → Store → Out (Nat × List U)) (tt : DEnv → Store → Out Bool) (te : DEnv → Store → Out U) (vs : List Nat) (fin : List U → Store → Out U) : DEnv → Store → Out U := fun δ μ => (fi δ μ).bind fun p μ1 => (lcO p.1 p.2 g tt te (wipeD δ vs) p.2 [] μ1).bind fin
theorem jlcO {g : U → DEnv → Option DEnv} {fi : DEnv → Store → Out (Nat × List U)} {tt : DEnv → Store → Out Bool} {te : DEnv → Store → Out U} {vs : List Nat} {fin : List U → Store → Out U} {wi : TI} (ji : J (ρIO X.K) X.K W wi fi) (hf : FinOk X.K W fin) :
    J (ρU X.K) X.K W (tLc wi (tGv X.K vs g) (tUB X.K W0 tt) (tU X.K W0 te) vs) (eLcO g fi tt te vs fin) := fun G α H σ δ μ Q ok re hp => by
  refine ji G α H σ δ μ _ ok re (hp.bind fun p μ1 Jt G1 α1 H1 ok1 s1 wk hp1 => ?_)
  obtain ⟨n, us⟩ := p
  dsimp only at wk hp1
  intro Dl hD
  have re1 := re.step s1
  let I := LcI X.K W G1 α1 H1 σ Dl (lcO n us g tt te (wipeD δ vs)) fin Q us
  refine ⟨fun i m H' => m = us.length - i ∧ i ≤ us.length ∧ I i H', ⟨us.length, by simp, Nat.zero_le _, ?_⟩, ?_⟩
  · obtain ⟨oka, sta⟩ := ok1.aside (o := .lst []) hD
    exact ⟨G1, α1, μ1, [], [], oka, sta, Evl.fresh_back ok1.ex hD, ok1.free hD, upd_same, .nil, hp1⟩
  · rintro i m H' ⟨rfl, hi, ⟨G2, α2, μ2, acc, xs, ok2, st2, g2, a2, x2, r2, hp2⟩⟩
    have hg0 : ∀ {β γ : Type} (b : Bool) (r : Out β) (k : β → Store → Out γ), (guard b r).bind k = guard b (r.bind k) := fun b r k => by cases b <;> rfl
    by_cases hlt : i < us.length
    · have hu : us[i]? = some us[i] := List.getElem?_eq_getElem hlt
      rw [drop_at hu] at hp2
      unfold lcO at hp2
      rw [hg0] at hp2
      obtain ⟨hc2, hp2⟩ := hp2.guard
      obtain ⟨w1, w2⟩ := wk G2 α2 H' μ2 i ok2 st2.g st2.a (still_ok hc2)
      obtain ⟨w3, w4⟩ := w1 _ hu
      refine .inr ⟨w3, I (i + 1), fun H3 p3 => ⟨us.length - (i + 1), by omega, rfl, hlt, p3⟩, fun x H3 y => ?_⟩
      obtain ⟨G3, ok3, st3, rv⟩ := w4 x H3 y
      have x3 : H3 Dl = some (.lst xs) := st3.h Dl _ a2 x2
      have g3 : G3 Dl = none := st3.n Dl _ a2 x2 g2
      split at hp2
      · exact hp2.elim
      · rename_i δ1 eg
        refine ⟨G3, α2, wipeD δ vs, δ1, μ2, _, ok3, wipe_rep ((re1.step st2).step st3) vs, rv, eg, fun σ' re' hw => ⟨?_, ?_⟩⟩
        · rw [hw]
          apply List.ext_getElem?
          intro j
          rw [wipe_get, wipe_get]
          by_cases hj : j ∈ vs
          · rw [if_pos hj, if_pos hj]
            cases σ[j]? <;> rfl
          · rw [if_neg hj, if_neg hj]
        · cases et : HB.noErr (tt δ1 μ2) with
          | err x m =>
            cases eq : tt δ1 μ2 with
            | ok b m =>
              rw [eq] at et
              cases et
            | err x m =>
              rw [eq] at et
              cases et
            | stuck =>
              rw [eq] at et
              cases et
          | stuck =>
            rw [et] at hp2
            exact hp2.elim
          | ok b μ4 =>
            rw [et] at hp2
            refine ⟨G3, α2, δ1, μ2, ok3, re', ?_⟩
            rw [noErr_ok et]
            intro vb G4 α4 H4 ok4 st4 rb
            have x4 : H4 Dl = some (.lst xs) := st4.h Dl _ a2 x3
            have g4 : G4 Dl = none := st4.n Dl _ a2 x3 g3
            have a4 : Dl ∉ α4 := fun h => by
              have := st4.f Dl h a2
              rw [x3] at this
              cases this
            have eb : vb = b := rb
            subst eb
            have r4 := st4.repL (st3.repL r2)
            cases vb with
            | false => exact iteF ⟨G4, α4, μ4, acc, xs, ok4, (st2.trans st3).trans st4, g4, a4, x4, r4, hp2⟩
            | true =>
              refine iteT ?_
              cases ee : HB.noErr (te δ1 μ4) with
              | err x m =>
                cases eq : te δ1 μ4 with
                | ok b m =>
                  rw [eq] at ee
                  cases ee
                | err x m =>
                  rw [eq] at ee
                  cases ee
                | stuck =>
                  rw [eq] at ee
                  cases ee
              | stuck =>
                have hp3 : Pg (ρU X.K) X.K G1 α1 H1 σ (((HB.noErr (te δ1 μ4)).bind fun y μ2 => guard (fits acc.length) (lcO n us g tt te (wipeD δ vs) (us.drop (i + 1)) (acc ++ [y]) μ2)).bind fin) Q W := hp2
                rw [ee] at hp3
                exact hp3.elim
              | ok y μ5 =>
                have hp3 : Pg (ρU X.K) X.K G1 α1 H1 σ (((HB.noErr (te δ1 μ4)).bind fun y μ2 => guard (fits acc.length) (lcO n us g tt te (wipeD δ vs) (us.drop (i + 1)) (acc ++ [y]) μ2)).bind fin) Q W := hp2
                rw [ee] at hp3
                have hg : ∀ {β γ : Type} (b : Bool) (r : Out β) (k : β → Store → Out γ), (guard b r).bind k = guard b (r.bind k) := fun b r k => by cases b <;> rfl
                have hp4 : Pg (ρU X.K) X.K G1 α1 H1 σ ((guard (fits acc.length) (lcO n us g tt te (wipeD δ vs) (us.drop (i + 1)) (acc ++ [y]) μ5)).bind fin) Q W := hp3
                rw [hg] at hp4
                obtain ⟨h1, hp5⟩ := hp4.guard
                refine ⟨G4, α4, δ1, μ4, ok4, re'.step st4, ?_⟩
                rw [noErr_ok ee]
                intro vy G5 α5 H5 ok5 st5 ry
                have x5 : H5 Dl = some (.lst xs) := st5.h Dl _ a4 x4
                have g5 : G5 Dl = none := st5.n Dl _ a4 x4 g4
                have a5 : Dl ∉ α5 := fun h => by
                  have := st5.f Dl h a4
                  rw [x4] at this
                  cases this
                have r5 := st5.repL r4
                have stA := ((st2.trans st3).trans st4).trans st5
                refine ⟨xs, x5, by rw [r5.length]; exact fits_lt h1, G5, α5, μ5, acc ++ [y], xs ++ [vy], ok5.poke a5 g5, ⟨stA.g, stA.a, fun b o nb e => ?_, stA.f, stA.n⟩, g5, a5, upd_same, r5.append (.cons ry .nil), hp5⟩
                rw [upd_ne (ne_of_none e hD)]
                exact stA.h b o nb e
    · have e : i = us.length := by omega
      subst e
      rw [List.drop_length] at hp2
      unfold lcO at hp2
      rw [hg0] at hp2
      obtain ⟨hc2, hp2⟩ := hp2.guard
      obtain ⟨w1, w2⟩ := wk G2 α2 H' μ2 us.length ok2 st2.g st2.a (still_ok hc2)
      exact .inl ⟨w2 (Nat.le_refl _), hf G1 α1 H1 σ G2 α2 H' μ2 acc xs Dl Q st2 hD ok2 g2 a2 x2 r2 hp2⟩
theorem de_lcO {elt tg iter : Expr} {ifs : List Expr} {scope : Scope} {own : List (Str × Nat)} {pos : Pos} {g : U → DEnv → Option DEnv} {fi : DEnv → Store → Out (Nat × List U)} {tt : DEnv → Store → Out Bool} {te : DEnv → Store → Out U} {fin : List U → Store → Out U} (hf : FinOk X.K W fin) (hc : X.calm = true) (hN : X.N.Nodup) (hi : DIO X W tg iter fi) (ok : BlkOk X.N X.env.scope scope own)
    (hg : ∀ (s : Shared) (H : Hp) (C : Addr) (cl : List (Str × Addr)) (fp : List Addr), DGv (X.blk s H scope (compEnvC scope cl C X.env) fp) (own.map (·.2)) tg g) (ht : ∀ (s : Shared) (H : Hp) (C : Addr) (cl : List (Str × Addr)) (fp : List Addr), DTs (X.blk s H scope (compEnvC scope cl C X.env) fp) ifs tt)
    (he : ∀ (s : Shared) (H : Hp) (C : Addr) (cl : List (Str × Addr)) (fp : List Addr), DE (X.blk s H scope (compEnvC scope cl C X.env) fp) W0 elt te) (hs : ∀ x, foldedSetIterable iter X.env x = pure x := by intro _; rfl) :
    DE X W (.ListComp elt [⟨tg, iter, ifs, 0⟩] scope pos) (eLcO g fi tt te (own.map (·.2)) fin) := by
  obtain ⟨wi, pi, ji⟩ := hi
  exact ⟨_, pe_lc (g := tGv X.K (List.map (fun (x : Str × Nat) => x.2) own) g) (tt := tUB X.K W0 tt) (te := tU X.K W0 te) hc hN pi ok (fun s H C cl fp => (hg s H C cl fp : PG _ _ _)) ht (fun s H C cl fp => (he s H C cl fp).canon) hs, jlcO ji hf⟩
theorem ds_setLcO {i : Nat} {y : Str} {py : Pos} {elt tg iter : Expr} {ifs : List Expr} {scope : Scope} {own : List (Str × Nat)} {pos spos : Pos} {g : U → DEnv → Option DEnv} {fi : DEnv → Store → Out (Nat × List U)} {tt : DEnv → Store → Out Bool} {te : DEnv → Store → Out U} {fin : List U → Store → Out U} (hf : FinOk X.K W fin) (hc : X.calm = true) (hN : X.N.Nodup) (hy : X.N[i]? = some y) (hyl : X.env.scope.names.lookup y = some .local)
    (hsw : swapsWith (.ListComp elt [⟨tg, iter, ifs, 0⟩] scope pos) (some (.Name y py)) spos.line X.env = pure true) (hi : DIO X W tg iter fi) (ok : BlkOk X.N X.env.scope scope own)
    (hg : ∀ (s : Shared) (H : Hp) (C : Addr) (cl : List (Str × Addr)) (fp : List Addr), DGv (X.blk s H scope (compEnvC scope cl C X.env) fp) (own.map (·.2)) tg g) (ht : ∀ (s : Shared) (H : Hp) (C : Addr) (cl : List (Str × Addr)) (fp : List Addr), DTs (X.blk s H scope (compEnvC scope cl C X.env) fp) ifs tt)
    (he : ∀ (s : Shared) (H : Hp) (C : Addr) (cl : List (Str × Addr)) (fp : List Addr), DE (X.blk s H scope (compEnvC scope cl C X.env) fp) W0 elt te) (hs : ∀ x, foldedSetIterable iter X.env x = pure x := by intro _; rfl) :
    DS X W (.Assign [.Name y py] (.ListComp elt [⟨tg, iter, ifs, 0⟩] scope pos) spos) (sSet i (eLcO g fi tt te (own.map (·.2)) fin)) := by
  obtain ⟨wi, pi, ji⟩ := hi
  refine ⟨_, ps_setLc (g := tGv X.K (List.map (fun (x : Str × Nat) => x.2) own) g) (tt := tUB X.K W0 tt) (te := tU X.K W0 te) hc hN hy hyl hsw pi ok (fun s H C cl fp => (hg s H C cl fp : PG _ _ _)) ht (fun s H C cl fp => (he s H C cl fp).canon) hs, fun G α H σ δ μ N ok re h => ?_⟩
  exact jlcO ji hf G α H σ δ μ _ ok re (PgS.bind re h fun u μ1 v G1 α1 H1 ok1 s1 r1 h1 => h1 _ G1 α1 H1 ok1 (Stp.refl _ _ _) ((re.step s1).set i r1))
end
end HB
end
section
set_option Elab.async false
set_option linter.all false
set_option maxRecDepth 100000
set_option maxHeartbeats 4000000
namespace HB
open PySem PySem.Spec L2
open PyProof.Rows hiding St
open Evl (Ex ex_t ex_l ex_rd)
/-! ### a walk over data or over a list that may be changed -/
def WkX (K : PySem.W.Frag) (G : Hp) (α : List Addr) (J : It) (p : Option Nat × List U) : Prop := match p.1 with
  | none => Wk K G α J p.2
  | some n => WkC K G α J n p.2
noncomputable def forX (p : Option Nat × List U) (g : U → DEnv → Option DEnv) (body : DEnv → Store → OutS) : DEnv → Store → OutS := match p.1 with
  | none => forL g body p.2
  | some n => forO n p.2 g body p.2
section
variable {X : Cx} {W : WX}
abbrev ρIX (K : PySem.W.Frag) : Hp → List Addr → It → Option Nat × List U → Prop := fun G α J p => WkX K G α J p
def DIX (X : Cx) (W : WX) (tg iter : Expr) (f : DEnv → Store → Out (Option Nat × List U)) : Prop := ∃ wi : TI, PI X tg iter wi ∧ J (ρIX X.K) X.K W wi f
noncomputable def sForX (g : U → DEnv → Option DEnv) (f : DEnv → Store → Out (Option Nat × List U)) (body : DEnv → Store → OutS) : DEnv → Store → OutS := sBind f fun p δ μ => forX p g body δ μ
theorem ds_forX {tg iter : Expr} {body : List Stmt} {f : DEnv → Store → Out (Option Nat × List U)} {g : U → DEnv → Option DEnv} {b : DEnv → Store → OutS} {pos : Pos} (hp : PassesOwn (model X.prog X.w) X.A X.env X.xe) (hc : X.calm = true) (hi : DIX X W tg iter f) (hg : DG X tg g) (hb : DSs X W body b)
    (hs : ∀ x, foldedSetIterable iter X.env x = pure x := by intro _; rfl) : DS X W (.For tg iter body [] pos) (sForX g f b) := by
  obtain ⟨wi, pi, ji⟩ := hi
  obtain ⟨tg', pg, jg⟩ := hg
  obtain ⟨tb, pb, jb⟩ := hb
  refine ⟨_, ps_for hp hc pi pg pb hs, fun G α H σ δ μ N ok re h => ?_⟩
  refine ji G α H σ δ μ _ ok re (PgS.bind re h fun p μ1 J G1 α1 H1 ok1 s1 wk h1 => ?_)
  obtain ⟨o, us⟩ := p
  cases o with
  | none => exact for_wk jg jb wk ok1 (re.step s1) h1
  | some n => exact for_wkO jg jb wk ok1 (re.step s1) h1
def iX (f : DEnv → Store → Out U) : DEnv → Store → Out (Option Nat × List U) := fun δ μ => (f δ μ).bind fun u μ1 => match u with
  | .own n => (match μ1[n]? with
    | some (.lst us) => .ok (some n, us) μ1
    | _ => .stuck)
  | u => (match itemsU u with
    | some us => .ok (none, us) μ1
    | none => .stuck)
theorem di_x {tg l : Expr} {f : DEnv → Store → Out U} (hl : DE X W l f) : DIX X W tg l (iX f) := by
  obtain ⟨t, p, j⟩ := hl
  refine ⟨_, pi_any p, fun G α H σ δ μ Q ok re hp => ?_⟩
  refine j G α H σ δ μ _ ok re (hp.bind fun u μ1 v G1 α1 H1 ok1 s1 r1 hp1 => ?_)
  cases u with
  | exc a dd x => exact hp1.elim
  | own n =>
    dsimp only at hp1
    split at hp1
    · rename_i us e
      obtain ⟨a, h1, rfl⟩ := r1
      obtain ⟨_, xs, hx, r⟩ := ok1.cell n a _ h1 e
      exact .inl ⟨_, rfl, ⟨_, SqL.of hx⟩, hp1 _ _ _ _ ok1 (Stp.refl _ _ _) (wk_own h1)⟩
    · exact hp1.elim
  | d x =>
    cases x with
    | lst ds =>
      cases r1 with
      | lst h r => exact .inl ⟨_, rfl, ⟨_, SqL.of (ok1.ex _ _ h)⟩, hp1 _ _ _ _ ok1 (Stp.refl _ _ _) (wk_list (SqL.of h) r)⟩
    | fl ds =>
      cases r1 with
      | fl h r => exact .inl ⟨_, rfl, ⟨_, ex_l ok1.ex h⟩, hp1 _ _ _ _ ok1 (Stp.refl _ _ _) (wk_list h r)⟩
    | tup ds =>
      cases r1 with
      | tup h r => exact .inr (.inl ⟨_, rfl, ⟨_, ex_t ok1.ex h⟩, hp1 _ _ _ _ ok1 (Stp.refl _ _ _) (wk_tup h r)⟩)
    | str z =>
      cases r1
      exact .inr (.inr ⟨_, rfl, hp1 _ _ _ _ ok1 (Stp.refl _ _ _) wk_str⟩)
    | _ => exact hp1.elim
/-! ### isinstance -/
inductive TyT where
  | b (n : String) | c (x : Str)
def TyT.v (K : PySem.W.Frag) : TyT → Value
  | .b n => .type n
  | .c x => .ref (He.ga K x)
def tyU (μ : Store) : U → Option TyT
  | .d .non => some (.b "NoneType")
  | .d (.bl _) => some (.b "bool")
  | .d (.int _) => some (.b "int")
  | .d (.str _) => some (.b "str")
  | .d (.tup _) => some (.b "tuple")
  | .d (.lst _) => some (.b "list")
  | .d (.fl _) => none
  | .d (.ob c _ _) => some (.c c)
  | .own n => match μ[n]? with
    | some (.lst _) => some (.b "list")
    | some (.ins c _) => some (.c c)
    | _ => none
  | .exc _ _ _ => none
/-- what is asked of a class whose instances are looked at -/
structure TyC (K : PySem.W.Frag) (C : Addr) : Prop where
  cl : Cls K C
  ha : PySem.W.findIn K (.ref C) "__class__" = some (some (.builtin "object.__class__"))
  hn : PySem.W.specialIn K (.builtin "object.__class__") "__get__" = some (some (.builtin "getset_descriptor.__get__"))
  tk : PySem.W.takesIn K (.builtin "object.__class__") = some true
  hm : PySem.W.mroIn K C (.type "object") = some true
def tycB (x : Str) : FB := fun K => (He.Fa.cls x).ok K && (decide (PySem.W.findIn K (.ref (He.ga K x)) "__class__" = some (some (.builtin "object.__class__"))) && (decide (PySem.W.specialIn K (.builtin "object.__class__") "__get__" = some (some (.builtin "getset_descriptor.__get__"))) && (decide (PySem.W.takesIn K (.builtin "object.__class__") = some true) && decide (PySem.W.mroIn K (He.ga K x) (.type "object") = some true))))
theorem tycB_ok {K : Fg} {x : Str} (h : tycB x K = true) : TyC K (He.ga K x) := by
  unfold tycB at h
  simp only [Bool.and_eq_true, decide_eq_true_eq] at h
  exact ⟨He.cls_ok h.1, h.2.1, h.2.2.1, h.2.2.2.1, h.2.2.2.2⟩
/-- the answers for one class asked -/
def isiF (t : List (TyT × Bool)) (x : TyT) : Option Bool := match t with
  | [] => none
  | (y, b) :: r => match x, y with
    | .b n, .b m => if n = m then some b else isiF r x
    | .c n, .c m => if n = m then some b else isiF r x
    | _, _ => isiF r x
structure IsiT (K : PySem.W.Frag) (t : List (TyT × Bool)) (u : Value) : Prop where
  one : ∀ p ∈ t, PySem.W.kitOne K (p.1.v K) u = some p.2
  cls : ∀ p ∈ t, ∀ x, p.1 = .c x → TyC K (He.ga K x)
def isiB (t : List (TyT × Bool)) (u : Fg → Value) : FB := fun K => t.all fun p => decide (PySem.W.kitOne K (p.1.v K) (u K) = some p.2) && (match p.1 with
  | .c x => tycB x K
  | .b _ => true)
theorem isiB_ok {K : Fg} {t : List (TyT × Bool)} {u : Fg → Value} (h : isiB t u K = true) : IsiT K t (u K) := by
  unfold isiB at h
  rw [List.all_eq_true] at h
  refine ⟨fun p hp => ?_, fun p hp x e => ?_⟩
  · have := h p hp
    rw [Bool.and_eq_true, decide_eq_true_eq] at this
    exact this.1
  · have := h p hp
    rw [Bool.and_eq_true, e] at this
    exact tycB_ok this.2
theorem isiF_mem : ∀ {t : List (TyT × Bool)} {x : TyT} {b : Bool}, isiF t x = some b → (x, b) ∈ t
  | [], _, _, h => by cases h
  | (y, b') :: r, x, b, h => by
    unfold isiF at h
    split at h
    · split at h
      · rename_i e
        subst e
        cases h
        exact List.mem_cons_self
      · exact List.mem_cons_of_mem _ (isiF_mem h)
    · split at h
      · rename_i e
        subst e
        cases h
        exact List.mem_cons_self
      · exact List.mem_cons_of_mem _ (isiF_mem h)
    · exact List.mem_cons_of_mem _ (isiF_mem h)
theorem sqt_ty {K : PySem.W.Frag} {H : Hp} {a : Addr} {xs : List V} (h : SqT K H a xs) : TyX K H (.ref a) (.type "tuple") := by
  rcases h with (h | ⟨o, h⟩) | ⟨o, its, n, h1, h2, _⟩
  · exact .base (.tup h)
  · exact .fTuple h
  · exact .kTuple h1 h2
theorem tyU_at {K : PySem.W.Frag} {G H : Hp} {α : List Addr} {μ : Store} {v : V} {u : U} {t : TyT} (ok : Ok K G α H μ) (r : RepU K G α v u) (e : tyU μ u = some t) (hc : ∀ x, t = .c x → TyC K (He.ga K x)) : TyX K H v (t.v K) := by
  unfold tyU at e
  split at e
  · cases e; cases r; exact .base .non
  · cases e; cases r; exact .base (.bl _)
  · cases e; cases r; exact .base (.int _)
  · cases e; cases r; exact .base (.str _)
  · cases e
    cases r with
    | tup h _ => exact sqt_ty (ex_t ok.ex h)
  · cases e
    cases r with
    | lst h _ => exact .base (.lst (ok.ex _ _ h))
  · cases e
  · cases e
    cases r with
    | ob h _ _ =>
      have c := hc _ rfl
      exact .base (.ins (ok.ex _ _ h) c.cl c.ha c.hn c.tk c.hm)
  · split at e
    · rename_i us q
      cases e
      obtain ⟨a, h1, rfl⟩ := r
      obtain ⟨_, xs, k, _⟩ := ok.cell _ a _ h1 q
      exact .base (.lst k)
    · rename_i c fs q
      cases e
      obtain ⟨a, h1, rfl⟩ := r
      obtain ⟨_, dx, vs, k, _⟩ := ok.cell _ a _ h1 q
      have c := hc _ rfl
      exact .base (.ins k c.cl c.ha c.hn c.tk c.hm)
    · cases e
  · cases e
def eIsi (t : List (TyT × Bool)) (f : DEnv → Store → Out U) : DEnv → Store → Out U := fun δ μ => (f δ μ).bind fun u μ1 => match tyU μ1 u with
  | some x => (match isiF t x with
    | some b => .ok (.d (.bl b)) μ1
    | none => .stuck)
  | none => .stuck
theorem isi_at {K : PySem.W.Frag} {G H : Hp} {α : List Addr} {μ : Store} {σ : St} {v : V} {u : U} {t : List (TyT × Bool)} {cv : Value} {Q : VK} (T : IsiT K t cv) (ok : Ok K G α H μ) (r : RepU K G α v u)
    (hp : Pg (ρU K) K G α H σ (match tyU μ u with
      | some x => (match isiF t x with
        | some b => .ok (.d (.bl b)) μ
        | none => .stuck)
      | none => .stuck) Q W) : ∃ tv b, TyX K H v tv ∧ PySem.W.kitOne K tv cv = some b ∧ Q (.bl b) H := by
  split at hp
  · rename_i x e
    split at hp
    · rename_i b e2
      have m := isiF_mem e2
      exact ⟨x.v K, b, tyU_at ok r e fun y ey => T.cls _ m y ey, T.one _ m, Pg.nowD ok .bl hp⟩
    · exact hp.elim
  · exact hp.elim
/-- isinstance(e, T), T a built-in type -/
theorem de_isiT {t : List (TyT × Bool)} {n : String} {y : Str} {e : Expr} {f : DEnv → Store → Out U} {p p2 pos : Pos} (T : IsiT X.K t (.type n)) (hg : Gl X "isinstance") (hm : X.mg "isinstance" = none) (hgy : Gl X y) (hmy : X.mg y = none) (hv : bootBuiltins y = some (.type n)) (he : DE X W e f)
    (hs : starEach [e, .Name y p2] X.env = (false, eval e X.env) :: starEach [.Name y p2] X.env := by rfl) (hs2 : starEach [.Name y p2] X.env = [(false, eval (.Name y p2) X.env)] := by rfl) (hpl : (backTo pos (starEach [.Name y p2] X.env)).any (·.1) = false := by rfl) (hny : y ≠ "__name__" := by decide) (hdy : (y == ("__debug__" : Str)) = false := by decide) :
    DE X W (.Call (.Name "isinstance" p) [e, .Name y p2] [] pos) (eIsi t f) := by
  obtain ⟨te, pe, j⟩ := he
  have py : PE X (.Name y p2) (tC (.ty n)) := ⟨fun pins s σ H Q I h => ld_blt I hgy hmy hv ⟨.ty n, H, I, rfl, h⟩ hny hdy⟩
  refine ⟨_, pe_callB call_isi hg hm (by decide +kernel) (pa_cons pe (pa_cons py pa_nil hs2) hs) (by decide) (by decide) hs hpl, fun G α H σ δ μ Q ok re hp => ?_⟩
  refine j G α H σ δ μ _ ok re (hp.bind fun u μ1 v G1 α1 H1 ok1 s1 r1 hp1 => ?_)
  obtain ⟨tv, b, h1, h2, h3⟩ := isi_at T ok1 r1 hp1
  exact ⟨v, .ty n, tv, .type n, b, rfl, .ty n, h1, h2, h3⟩
end
end HB
end
section
set_option Elab.async false
set_option linter.all false
set_option maxRecDepth 100000
set_option maxHeartbeats 4000000
namespace HB
open PySem PySem.Spec L2
open PyProof.Rows hiding St
/-! ### len(o), o an instance with its own __len__ -/
section
variable {X : Cx} {W : WX}
/-- a special method of an own class -/
structure Spc (K : PySem.W.Frag) (C : Addr) (m : Str) (f : Addr) : Prop where
  fi : PySem.W.findIn K (.ref C) m = some (some (.ref f))
  ty : PySem.W.typeIn K (.ref f) = some (.type "function")
def spcB (x m : Str) (f : Fg → Addr) : FB := fun K => decide (PySem.W.findIn K (.ref (He.ga K x)) m = some (some (.ref (f K)))) && decide (PySem.W.typeIn K (.ref (f K)) = some (.type "function"))
theorem spcB_ok {K : Fg} {x m : Str} {f : Fg → Addr} (h : spcB x m f K = true) : Spc K (He.ga K x) m (f K) := by
  unfold spcB at h
  simp only [Bool.and_eq_true, decide_eq_true_eq] at h
  exact ⟨h.1, h.2⟩
def rLenI (K : PySem.W.Frag) (c : Str) (g : List U → Store → Out U) : List V → Hp → VK → Prop := fun vs H Q => ∃ a dx fs, vs = [.ref a] ∧ H a = some (.ins (He.ga K c) dx fs) ∧ SpU K g [.ref a] H (fun v H' => ∃ n : Nat, v = .int n ∧ n < 2 ^ 62 ∧ Q (.int n) H') (fun _ _ _ => False)
theorem call_lenI {k : Nat} {c : Str} {f : Addr} {fd : FuncData} {ps : List Str} {g : List U → Store → Out U} (S : Spc X.K (He.ga X.K c) "__len__" f) (F : FnG X.prog X.w X.K X.mg X.base k f fd ps (SpU X.K g)) (hgd : X.A.guards = some []) (hr : Room (k + 1) X.A) (hb : Binds X.K fd ps []) :
    CallR X (.builtin "len") (rLenI X.K c g) := by
  intro pins s σ H xs us Q I r h
  obtain ⟨a, dx, fs, rfl, ea, sp⟩ := h
  obtain ⟨u, rfl, ru⟩ := vals1 r
  obtain rfl : u = Value.ref a := ru
  obtain ⟨mA, O, _, _, _, _⟩ := ins_get I.hok ea
  obtain ⟨od, J, _⟩ := O.look
  have hl : ([Value.ref a] ++ ([] : List Value)).length = ps.length := (show [V.ref a].length = ps.length from F.len _ _ _ _ sp)
  refine Calls.call_function_entry kind_len plain_len entry_len (args_len1 _) ?_
  unfold Builtin.«len»
  refine wpAny_bind (m := oneArg "len" _) (wpAny_pure ?_)
  refine wpAny_bind (m := callSpecial? (.ref a) (PySem.Str.ofString "__len__")) (PySem.W.special_fn I.kIn J S.fi S.ty (wpAny_call (codeAny_mono (F.run X.A.in1 X.stack s H ⟨[.ref a], []⟩ [.ref a] [.ref a] _ _ hgd hr.in1 I.env0.in1 (hb _ [.ref a] I.kIn hl) (.cons rfl .nil) sp) ?_)))
  intro res s' hz
  match res, hz with
  | .error e, hz =>
    obtain ⟨_, _, _, _, _, _, _, _, _, _, _, _, z⟩ := hz
    exact z.elim
  | .ok .next, hz => exact hz.elim
  | .ok .brk, hz => exact hz.elim
  | .ok .cont, hz => exact hz.elim
  | .ok (.ret w), hz =>
    obtain ⟨v, H', I3, rv, n, rfl, hn, q⟩ := I.after hz
    obtain ⟨t, rfl⟩ := rv
    refine wpAny_bind (wpAny_holding (wpAny_pure ?_))
    refine wpAny_bind (wpAny_letGo ?_)
    show wpAny _ _ (if ((n : Nat) : Int) < 0 then _ else _) _ _ _
    rw [if_neg (by omega)]
    show wpAny _ _ (if ((n : Nat) : Int) ≥ 2 ^ 63 then _ else _) _ _ _
    rw [if_neg (by omega)]
    exact wpAny_bind (wpAny_mkInt (wpAny_pure ⟨_, rfl, .int n, H', I3.tok _, ⟨_, rfl⟩, q⟩))
/-- instances of c only; nothing is raised; a small number -/
def lenI (c : Str) (g : List U → Store → Out U) : List U → Store → Out U := fun us μ => match us with
  | [u] => (match insU μ u with
    | some (c', _) => if c' = c then (match g [u] μ with
      | .ok (.d (.int i)) μ' => guard (decide (0 ≤ i ∧ i < 2 ^ 62)) (.ok (.d (.int i)) μ')
      | _ => .stuck) else .stuck
    | none => .stuck)
  | _ => .stuck
theorem cb_lenI {k : Nat} {c : Str} {f : Addr} {fd : FuncData} {ps : List Str} {g : List U → Store → Out U} (S : Spc X.K (He.ga X.K c) "__len__" f) (F : FnG X.prog X.w X.K X.mg X.base k f fd ps (SpU X.K g)) (hgd : X.A.guards = some []) (hr : Room (k + 1) X.A) (hb : Binds X.K fd ps []) :
    CallB X W (.builtin "len") (lenI c g) := by
  refine ⟨_, call_lenI S F hgd hr hb, fun G α H σ μ vs us Q ok r hp => ?_⟩
  unfold lenI at hp
  split at hp
  · rename_i u
    obtain ⟨v, rfl, rv⟩ := one_rep r
    split at hp
    · rename_i c' fs e
      split at hp
      · rename_i ec
        subst ec
        obtain ⟨a, dx, vs', rfl, ha, _⟩ := insU_at ok rv e
        refine ⟨a, dx, vs', rfl, ha, G, α, μ, [u], ok, r, ?_⟩
        split at hp
        · rename_i i μ' eg
          obtain ⟨h1, h2⟩ := hp.guard
          have h1 := of_decide_eq_true h1
          rw [eg]
          intro v G' α' H' ok' st' rv'
          cases rv'
          refine ⟨i.toNat, by rw [Int.toNat_of_nonneg h1.1], by omega, ?_⟩
          have := h2 (.int i) G' α' H' ok' st' .int
          rwa [Int.toNat_of_nonneg h1.1]
        · exact hp.elim
      · exact hp.elim
    · exact hp.elim
  · exact hp.elim
end
end HB
end
section
set_option Elab.async false
set_option linter.all false
set_option maxRecDepth 100000
set_option maxHeartbeats 4000000
/-! the plain side: what is wanted behind a function over data, one step at a time -/
namespace HB
open PySem L2
@[irreducible] def wE {β : Type} (r : Out β) (Q : β → Store → Prop) (E : Err → Store → Prop) : Prop := match r with
  | .ok b μ => Q b μ
  | .err x μ => E x μ
  | .stuck => False
structure Kn where
  nx : DEnv → Store → Prop
  rt : U → Store → Prop
  er : Err → DEnv → Store → Prop
  bk : DEnv → Store → Prop
  ct : DEnv → Store → Prop
@[irreducible] def wS (r : OutS) (k : Kn) : Prop := match r with
  | .nx δ μ => k.nx δ μ
  | .ret u μ => k.rt u μ
  | .err x δ μ => k.er x δ μ
  | .brk δ μ => k.bk δ μ
  | .cnt δ μ => k.ct δ μ
  | .stuck => False
/-- a value that is a truth -/
def onB (Q : Bool → Store → Prop) (u : U) (μ : Store) : Prop := match u with
  | .d (.bl b) => Q b μ
  | _ => False
section
variable {β γ : Type} {Q : U → Store → Prop} {Qb : Bool → Store → Prop} {Ql : List U → Store → Prop} {E : Err → Store → Prop} {δ : DEnv} {μ : Store} {k : Kn}
theorem wE.mono {r : Out β} {Q Q' : β → Store → Prop} {E E' : Err → Store → Prop} (h : wE r Q E) (h1 : ∀ b μ, Q b μ → Q' b μ) (h2 : ∀ x μ, E x μ → E' x μ) : wE r Q' E' := by
  cases r with
  | ok b μ => with_unfolding_all exact h1 _ _ h
  | err x μ => with_unfolding_all exact h2 _ _ h
  | stuck => with_unfolding_all exact h
theorem wE.eq {r r' : Out β} {Q : β → Store → Prop} (e : r = r') (h : wE r' Q E) : wE r Q E := by rw [e]; with_unfolding_all exact h
theorem wE_ok {b : β} {Q : β → Store → Prop} (h : Q b μ) : wE (.ok b μ) Q E := by with_unfolding_all exact h
theorem wE_bind {r : Out β} {f : β → Store → Out γ} {Q : γ → Store → Prop} (h : wE r (fun b μ => wE (f b μ) Q E) E) : wE (r.bind f) Q E := by
  cases r with
  | ok b μ => with_unfolding_all exact h
  | err x μ => with_unfolding_all exact h
  | stuck => with_unfolding_all exact h
theorem wE_guard {b : Bool} {r : Out β} {Q : β → Store → Prop} (hb : b = true) (h : wE r Q E) : wE (guard b r) Q E := by
  subst hb
  with_unfolding_all exact h
theorem wE_ex {r : Out β} {Q : β → Store → Prop} (h : wE r Q fun _ _ => False) : ∃ b μ, r = .ok b μ ∧ Q b μ := by
  cases r with
  | ok b μ => with_unfolding_all exact ⟨b, μ, rfl, h⟩
  | err x μ => with_unfolding_all exact False.elim h
  | stuck => with_unfolding_all exact False.elim h
/-! ### expressions -/
theorem w_var {i : Nat} {u : U} (e : δ[i]? = some (some u)) (h : Q u μ) : wE (eVar i δ μ) Q E := by
  unfold eVar
  rw [e]
  with_unfolding_all exact h
theorem w_c {d : D} (h : Q (.d d) μ) : wE (eC d δ μ) Q E := by with_unfolding_all exact h
theorem w_bin {o : U → U → Store → Out U} {f g : DEnv → Store → Out U} (h : wE (f δ μ) (fun u μ1 => wE (g δ μ1) (fun w μ2 => wE (o u w μ2) Q E) E) E) : wE (eBin o f g δ μ) Q E := by
  with_unfolding_all exact wE_bind (h.mono (fun _ _ h => wE_bind h) fun _ _ h => h)
theorem w_ii {c : Int → Int → Bool} {g : Int → Int → D} {i j : Int} (hc : c i j = true) (h : Q (.d (g i j)) μ) : wE (iiO c g (.d (.int i)) (.d (.int j)) μ) Q E := by
  have e : iiO c g (.d (.int i)) (.d (.int j)) μ = .ok (.d (g i j)) μ := by simp only [iiO, hc]
  rw [e]
  with_unfolding_all exact h
theorem w_sub {i j : Int} (h : Q (.d (.int (i - j))) μ) : wE (subI (.d (.int i)) (.d (.int j)) μ) Q E := by with_unfolding_all exact h
theorem w_lt {i j : Int} (h : Q (.d (.bl (decide (i < j)))) μ) : wE (ltI (.d (.int i)) (.d (.int j)) μ) Q E := by with_unfolding_all exact h
theorem w_le {i j : Int} (h : Q (.d (.bl (decide (i ≤ j)))) μ) : wE (leI (.d (.int i)) (.d (.int j)) μ) Q E := by with_unfolding_all exact h
theorem w_gt {i j : Int} (h : Q (.d (.bl (decide (j < i)))) μ) : wE (gtI (.d (.int i)) (.d (.int j)) μ) Q E := by with_unfolding_all exact h
theorem w_ge {i j : Int} (h : Q (.d (.bl (decide (j ≤ i)))) μ) : wE (geI (.d (.int i)) (.d (.int j)) μ) Q E := by with_unfolding_all exact h
theorem w_mod {i j : Int} (hc : 0 < j) (h : Q (.d (.int (i % j))) μ) : wE (modI (.d (.int i)) (.d (.int j)) μ) Q E := by with_unfolding_all exact w_ii (decide_eq_true hc) h
theorem w_fdiv {i j : Int} (hc : 0 < j ∧ j < 1073741824) (h : Q (.d (.int (i / j))) μ) : wE (fdivI (.d (.int i)) (.d (.int j)) μ) Q E := by with_unfolding_all exact w_ii (decide_eq_true hc) h
theorem w_pow {i j : Int} (hc : 0 ≤ j ∧ j ≤ 1000000 ∧ i.natAbs < 2 ^ 64) (h : Q (.d (.int (i ^ j.toNat))) μ) : wE (powI (.d (.int i)) (.d (.int j)) μ) Q E := by with_unfolding_all exact w_ii (decide_eq_true hc) h
theorem w_add {i j : Int} (h : Q (.d (.int (i + j))) μ) : wE (addU (.d (.int i)) (.d (.int j)) μ) Q E := by with_unfolding_all exact h
theorem w_addS {x y : Str} (hf : fits (x.length + y.length) = true) (h : Q (.d (.str (x ++ y))) μ) : wE (addU (.d (.str x)) (.d (.str y)) μ) Q E := by
  rw [addU_str]
  with_unfolding_all exact wE_guard hf h
theorem w_addL {x y : List D} (hf : fits (x.length + y.length) = true) (h : Q (.d (.lst (x ++ y))) μ) : wE (addU (.d (.lst x)) (.d (.lst y)) μ) Q E := by
  rw [addU_lst]
  with_unfolding_all exact wE_guard hf h
theorem w_mul {i j : Int} (hc : (-(2 ^ 64) < i ∧ i < 2 ^ 64) ∨ (-(2 ^ 64) < j ∧ j < 2 ^ 64)) (h : Q (.d (.int (i * j))) μ) : wE (mulU (.d (.int i)) (.d (.int j)) μ) Q E := by
  have e : mulI (.d (.int i)) (.d (.int j)) μ = .ok (.d (.int (i * j))) μ := by simp only [mulI, iiO, decide_eq_true hc]
  unfold mulU orO
  rw [e]
  with_unfolding_all exact h
theorem w_mulS {x : Str} {n : Int} (hc : (0 ≤ n ∧ n ≤ 1000) ∧ x.length ≤ 1000) (h : Q (.d (.str (Txt.mul x n))) μ) : wE (mulU (.d (.str x)) (.d (.int n)) μ) Q E := by
  have e : mulU (.d (.str x)) (.d (.int n)) μ = mulS (.d (.str x)) (.d (.int n)) μ := rfl
  rw [e]
  unfold mulS
  with_unfolding_all exact wE_guard (by simp [hc]) h
theorem w_neg {f : DEnv → Store → Out U} (h : wE (f δ μ) (fun u μ1 => wE (negU u μ1) Q E) E) : wE (eNeg f δ μ) Q E := by with_unfolding_all exact wE_bind h
theorem w_negI {i : Int} (h : Q (.d (.int (-i))) μ) : wE (negU (.d (.int i)) μ) Q E := by with_unfolding_all exact h
theorem w_eqI {i j : Int} (h : Q (.d (.bl (decide (i = j)))) μ) : wE (eqU (.d (.int i)) (.d (.int j)) μ) Q E := by with_unfolding_all exact h
theorem w_eqT {i j : Str} (h : Q (.d (.bl (decide (i = j)))) μ) : wE (eqU (.d (.str i)) (.d (.str j)) μ) Q E := by with_unfolding_all exact h
theorem w_eqS {a b : D} (hs : scD a b = true) (h : Q (.d (.bl (eqSc a b))) μ) : wE (eqU (.d a) (.d b) μ) Q E := by
  have e : eqS false (.d a) (.d b) μ = .ok (.d (.bl (eqSc a b))) μ := by simp only [eqS, hs, guard_true, neg_t, neg_f]
  unfold eqU orO
  rw [e]
  with_unfolding_all exact h
theorem w_neI {i j : Int} (h : Q (.d (.bl (!decide (i = j)))) μ) : wE (neU (.d (.int i)) (.d (.int j)) μ) Q E := by with_unfolding_all exact h
theorem w_neT {i j : Str} (h : Q (.d (.bl (!decide (i = j)))) μ) : wE (neU (.d (.str i)) (.d (.str j)) μ) Q E := by with_unfolding_all exact h
theorem w_neS {a b : D} (hs : scD a b = true) (h : Q (.d (.bl (!eqSc a b))) μ) : wE (neU (.d a) (.d b) μ) Q E := by
  have e : eqS true (.d a) (.d b) μ = .ok (.d (.bl (!eqSc a b))) μ := by simp only [eqS, hs, guard_true, neg_t, neg_f]
  unfold neU orO
  rw [e]
  with_unfolding_all exact h
theorem w_eqD {n : Bool} {u w : U} {a b : D} {p q : PyData} (h0 : eqS n u w μ = .stuck) (h1 : deepU μ u = some a) (h2 : deepU μ w = some b) (h3 : toPy a = some p) (h4 : toPy b = some q) (h5 : (SeqAt.shaped p && SeqAt.shaped q) = true) (h : Q (.d (.bl (neg n (PyData.eqv p q)))) μ) : wE (orO (eqS n) (eqP n) u w μ) Q E := by
  unfold orO
  rw [h0]
  unfold eqP
  simp only [h1, h2, h3, h4]
  with_unfolding_all exact wE_guard h5 h
theorem w_isN {n : Bool} {a : D} (h : Q (.d (.bl (neg n (isNon a)))) μ) : wE (isNO n (.d a) (.d .non) μ) Q E := by with_unfolding_all exact h
theorem w_isyI {i : Int} (h : Q (.d (.bl true)) μ) : wE (isNO true (.d (.int i)) (.d .non) μ) Q E := by with_unfolding_all exact h
theorem w_isnI {i : Int} (h : Q (.d (.bl false)) μ) : wE (isNO false (.d (.int i)) (.d .non) μ) Q E := by with_unfolding_all exact h
theorem w_isyT {i : Str} (h : Q (.d (.bl true)) μ) : wE (isNO true (.d (.str i)) (.d .non) μ) Q E := by with_unfolding_all exact h
theorem w_isnT {i : Str} (h : Q (.d (.bl false)) μ) : wE (isNO false (.d (.str i)) (.d .non) μ) Q E := by with_unfolding_all exact h
theorem w_isyB {i : Bool} (h : Q (.d (.bl true)) μ) : wE (isNO true (.d (.bl i)) (.d .non) μ) Q E := by with_unfolding_all exact h
theorem w_isnB {i : Bool} (h : Q (.d (.bl false)) μ) : wE (isNO false (.d (.bl i)) (.d .non) μ) Q E := by with_unfolding_all exact h
theorem w_isyP {i : List D} (h : Q (.d (.bl true)) μ) : wE (isNO true (.d (.tup i)) (.d .non) μ) Q E := by with_unfolding_all exact h
theorem w_isnP {i : List D} (h : Q (.d (.bl false)) μ) : wE (isNO false (.d (.tup i)) (.d .non) μ) Q E := by with_unfolding_all exact h
theorem w_isyL {i : List D} (h : Q (.d (.bl true)) μ) : wE (isNO true (.d (.lst i)) (.d .non) μ) Q E := by with_unfolding_all exact h
theorem w_isnL {i : List D} (h : Q (.d (.bl false)) μ) : wE (isNO false (.d (.lst i)) (.d .non) μ) Q E := by with_unfolding_all exact h
theorem w_isyN (h : Q (.d (.bl false)) μ) : wE (isNO true (.d .non) (.d .non) μ) Q E := by with_unfolding_all exact h
theorem w_isnN (h : Q (.d (.bl true)) μ) : wE (isNO false (.d .non) (.d .non) μ) Q E := by with_unfolding_all exact h
theorem w_orL {h h' : U → U → Store → Out U} {u w : U} (hq : wE (h u w μ) Q E) : wE (orO h h' u w μ) Q E := by
  unfold orO
  cases e : h u w μ with
  | ok b μ' => rw [e] at hq; with_unfolding_all exact hq
  | err x μ' => rw [e] at hq; with_unfolding_all exact hq
  | stuck => rw [e] at hq; with_unfolding_all exact False.elim hq
theorem w_orR {h h' : U → U → Store → Out U} {u w : U} (h0 : h u w μ = .stuck) (hq : wE (h' u w μ) Q E) : wE (orO h h' u w μ) Q E := by
  unfold orO
  rw [h0]
  with_unfolding_all exact hq
theorem w_in {x : D} {w : U} {us : List U} {ds : List D} (h1 : sqU μ w = some us) (h2 : allD us = some ds) (h3 : (flatD x && ds.all flatD) = true) (h : Q (.d (.bl (inD x ds))) μ) : wE (inX (.d x) w μ) Q E := by
  refine w_orL (w_orL ?_)
  unfold inS
  simp only [h1, h2, h3]
  with_unfolding_all exact h
theorem w_nin {x : D} {w : U} {us : List U} {ds : List D} (h1 : sqU μ w = some us) (h2 : allD us = some ds) (h3 : (flatD x && ds.all flatD) = true) (h : Q (.d (.bl (!inD x ds))) μ) : wE (ninX (.d x) w μ) Q E := by
  refine w_orL (w_orL ?_)
  unfold inS
  simp only [h1, h2, h3]
  with_unfolding_all exact h
theorem w_inC {c : Nat} {z : Str} (h : Q (.d (.bl (decide (c ∈ z.cps.toList)))) μ) : wE (inX (.d (.str ⟨#[c]⟩)) (.d (.str z)) μ) Q E := by with_unfolding_all exact h
theorem w_ninC {c : Nat} {z : Str} (h : Q (.d (.bl (!decide (c ∈ z.cps.toList)))) μ) : wE (ninX (.d (.str ⟨#[c]⟩)) (.d (.str z)) μ) Q E := by with_unfolding_all exact h
theorem w_inP {n : Bool} {u w : U} {a b : D} {p : PyData} {qs : List PyData} (h0 : orO (inS n) (inC n) u w μ = .stuck) (h1 : deepU μ u = some a) (h2 : deepU μ w = some b) (h3 : toPy a = some p) (h4 : toPy b = some (.list qs)) (h5 : (SeqAt.shaped p && SeqAt.shaped (.list qs)) = true) (h : Q (.d (.bl (neg n (anyP p qs)))) μ) : wE (orO (orO (inS n) (inC n)) (inP n) u w μ) Q E := by
  refine w_orR h0 ?_
  unfold inP
  simp only [h1, h2, h3, h4]
  with_unfolding_all exact wE_guard h5 h
theorem w_tval {f : DEnv → Store → Out U} (h : wE (f δ μ) (onB Qb) E) : wE (tVal f δ μ) Qb E := by
  refine wE_bind (h.mono (fun u μ1 h => ?_) fun _ _ h => h)
  unfold onB at h
  split at h
  · with_unfolding_all exact h
  · with_unfolding_all exact False.elim h
theorem w_onB {b : Bool} (h : Qb b μ) : onB Qb (.d (.bl b)) μ := by with_unfolding_all exact h
theorem w_and {f g : DEnv → Store → Out Bool} (h : wE (f δ μ) (fun b μ1 => (b = true → wE (g δ μ1) Qb E) ∧ (b = false → Qb false μ1)) E) : wE (tAndB f g δ μ) Qb E := by
  refine wE_bind (h.mono (fun b μ1 h => ?_) fun _ _ h => h)
  cases b with
  | true => with_unfolding_all exact h.1 rfl
  | false => with_unfolding_all exact h.2 rfl
theorem w_or {f g : DEnv → Store → Out Bool} (h : wE (f δ μ) (fun b μ1 => (b = false → wE (g δ μ1) Qb E) ∧ (b = true → Qb true μ1)) E) : wE (tOrB f g δ μ) Qb E := by
  refine wE_bind (h.mono (fun b μ1 h => ?_) fun _ _ h => h)
  cases b with
  | true => with_unfolding_all exact h.2 rfl
  | false => with_unfolding_all exact h.1 rfl
theorem w_not {f : DEnv → Store → Out Bool} (h : wE (f δ μ) (fun b μ1 => Qb (!b) μ1) E) : wE (tNotB f δ μ) Qb E := by with_unfolding_all exact wE_bind h
theorem w_eand {f g : DEnv → Store → Out U} (h : wE (f δ μ) (onB fun b μ1 => (b = true → wE (g δ μ1) Q E) ∧ (b = false → Q (.d (.bl false)) μ1)) E) : wE (eAnd f g δ μ) Q E := by
  refine wE_bind (h.mono (fun u μ1 h => ?_) fun _ _ h => h)
  unfold onB at h
  split at h
  · rename_i b
    cases b with
    | true => with_unfolding_all exact h.1 rfl
    | false => with_unfolding_all exact h.2 rfl
  · with_unfolding_all exact False.elim h
theorem w_eor {f g : DEnv → Store → Out U} (h : wE (f δ μ) (onB fun b μ1 => (b = false → wE (g δ μ1) Q E) ∧ (b = true → Q (.d (.bl true)) μ1)) E) : wE (eOr f g δ μ) Q E := by
  refine wE_bind (h.mono (fun u μ1 h => ?_) fun _ _ h => h)
  unfold onB at h
  split at h
  · rename_i b
    cases b with
    | true => with_unfolding_all exact h.2 rfl
    | false => with_unfolding_all exact h.1 rfl
  · with_unfolding_all exact False.elim h
theorem w_enot {f : DEnv → Store → Out U} (h : wE (f δ μ) (onB fun b μ1 => Q (.d (.bl (!b))) μ1) E) : wE (eNot f δ μ) Q E := by
  refine wE_bind (h.mono (fun u μ1 h => ?_) fun _ _ h => h)
  unfold onB at h
  split at h
  · with_unfolding_all exact h
  · with_unfolding_all exact False.elim h
theorem w_if {c : DEnv → Store → Out Bool} {f g : DEnv → Store → Out U} (h : wE (c δ μ) (fun b μ1 => (b = true → wE (f δ μ1) Q E) ∧ (b = false → wE (g δ μ1) Q E)) E) : wE (eIf c f g δ μ) Q E := by
  refine wE_bind (h.mono (fun b μ1 h => ?_) fun _ _ h => h)
  cases b with
  | true => with_unfolding_all exact h.1 rfl
  | false => with_unfolding_all exact h.2 rfl
theorem w_chain {o o' : U → U → Store → Out U} {f g l : DEnv → Store → Out U} (h : wE (f δ μ) (fun u μ1 => wE (g δ μ1) (fun w μ2 => wE (o u w μ2) (onB fun b μ3 => (b = true → wE (l δ μ3) (fun y μ4 => wE (o' w y μ4) Q E) E) ∧ (b = false → Q (.d (.bl false)) μ3)) E) E) E) : wE (eChain o o' f g l δ μ) Q E := by
  refine wE_bind (h.mono (fun u μ1 h => wE_bind (h.mono (fun w μ2 h => wE_bind (h.mono (fun z μ3 h => ?_) fun _ _ h => h)) fun _ _ h => h)) fun _ _ h => h)
  unfold onB at h
  split at h
  · rename_i b
    cases b with
    | true => with_unfolding_all exact wE_bind (h.1 rfl)
    | false => with_unfolding_all exact h.2 rfl
  · with_unfolding_all exact False.elim h
theorem w_anil (h : Ql [] μ) : wE (aNil δ μ) Ql E := by with_unfolding_all exact h
theorem w_acons {f : DEnv → Store → Out U} {g : DEnv → Store → Out (List U)} (h : wE (f δ μ) (fun u μ1 => wE (g δ μ1) (fun us μ2 => Ql (u :: us) μ2) E) E) : wE (aCons f g δ μ) Ql E := by
  with_unfolding_all exact wE_bind (h.mono (fun _ _ h => wE_bind h) fun _ _ h => h)
theorem w_tup {g : DEnv → Store → Out (List U)} (h : wE (g δ μ) (fun us μ1 => ∃ ds, allD us = some ds ∧ fits ds.length = true ∧ Q (.d (.tup ds)) μ1) E) : wE (eTup g δ μ) Q E := by
  refine wE_bind (h.mono (fun us μ1 h => ?_) fun _ _ h => h)
  obtain ⟨ds, h1, h2, h3⟩ := h
  simp only [h1]
  with_unfolding_all exact wE_guard h2 h3
theorem w_lst {g : DEnv → Store → Out (List U)} (h : wE (g δ μ) (fun us μ1 => ∃ ds, allD us = some ds ∧ fits ds.length = true ∧ Q (.d (.lst ds)) μ1) E) : wE (eLst g δ μ) Q E := by
  refine wE_bind (h.mono (fun us μ1 h => ?_) fun _ _ h => h)
  obtain ⟨ds, h1, h2, h3⟩ := h
  simp only [h1]
  with_unfolding_all exact wE_guard h2 h3
theorem w_lstC {g : DEnv → Store → Out (List U)} (h : wE (g δ μ) (fun us μ1 => fits us.length = true ∧ Q (.own μ1.length) (μ1 ++ [.lst us])) E) : wE (eLstC g δ μ) Q E := by
  with_unfolding_all exact wE_bind (h.mono (fun us μ1 h => wE_guard h.1 h.2) fun _ _ h => h)
theorem w_cb {o : List U → Store → Out U} {g : DEnv → Store → Out (List U)} (h : wE (g δ μ) (fun us μ1 => wE (o us μ1) Q E) E) : wE (eCB o g δ μ) Q E := by with_unfolding_all exact wE_bind h
theorem w_ixS {z : Str} {i : Int} {c : Nat} (hf : fits z.length = true) (e : atI z.cps.toList i = some c) (h : Q (.d (.str ⟨#[c]⟩)) μ) : wE (ixU (.d (.str z)) (.d (.int i)) μ) Q E := by
  unfold ixU
  refine wE_guard hf ?_
  rw [e]
  with_unfolding_all exact h
theorem w_ix {u x : U} {us : List U} {i : Int} (hs : sqU μ u = some us) (e : atI us i = some x) (h : Q x μ) : wE (ixU u (.d (.int i)) μ) Q E := by
  have hu : ∀ z, u ≠ .d (.str z) := fun z q => by
    subst q
    cases hs
  unfold ixU
  split
  · rename_i w i' e'
    cases e'
    split
    · with_unfolding_all exact absurd rfl (hu _)
    · rw [hs]
      simp only [e]
      with_unfolding_all exact h
  · rename_i h'
    with_unfolding_all exact absurd rfl (h' i)
theorem w_lenS {z : Str} (hf : fits z.length = true) (h : Q (.d (.int z.length)) μ) : wE (lenU [.d (.str z)] μ) Q E := by with_unfolding_all exact wE_guard hf h
theorem w_len {u : U} {us : List U} (hs : sqU μ u = some us) (h : Q (.d (.int us.length)) μ) : wE (lenU [u] μ) Q E := by
  have hu : ∀ z, u ≠ .d (.str z) := fun z q => by
    subst q
    cases hs
  unfold lenU
  split
  · rename_i e
    cases e
    with_unfolding_all exact absurd rfl (hu _)
  · rename_i e
    cases e
    rw [hs]
    with_unfolding_all exact h
  · rename_i h1 h2
    with_unfolding_all exact absurd rfl (h2 u)
theorem w_abs {i : Int} (h : Q (.d (.int (if i < 0 then -i else i))) μ) : wE (absU [.d (.int i)] μ) Q E := by with_unfolding_all exact h
theorem w_int {i : Int} (h : Q (.d (.int i)) μ) : wE (intU [.d (.int i)] μ) Q E := by with_unfolding_all exact h
theorem w_intB {b : Bool} (h : Q (.d (.int (if b then 1 else 0))) μ) : wE (intU [.d (.bl b)] μ) Q E := by with_unfolding_all exact h
theorem w_str {i : Int} (hc : i.natAbs.log2 < 1920) (h : Q (.d (.str (toString i))) μ) : wE (strU [.d (.int i)] μ) Q E := by with_unfolding_all exact wE_guard (decide_eq_true hc) h
theorem w_list {u : U} {us : List U} {ds : List D} (hs : sqU μ u = some us) (hd : allD us = some ds) (h : Q (.d (.lst ds)) μ) : wE (listU [u] μ) Q E := by
  unfold listU
  simp only [hs, hd]
  with_unfolding_all exact h
theorem w_listC {u : U} {us : List U} (hs : sqU μ u = some us) (h : Q (.own μ.length) (μ ++ [.lst us])) : wE (listC [u] μ) Q E := by
  unfold listC
  simp only [hs]
  with_unfolding_all exact h
theorem w_tupT {ds : List D} (h : Q (.d (.tup ds)) μ) : wE (tupleU [.d (.tup ds)] μ) Q E := by with_unfolding_all exact h
theorem w_tupL {u : U} {us : List U} {ds : List D} (hs : lsU μ u = some us) (hd : allD us = some ds) (h : Q (.d (.tup ds)) μ) : wE (tupleU [u] μ) Q E := by
  unfold tupleU
  split
  · rename_i e
    cases e
    cases hs
  · rename_i e
    cases e
    simp only [hs, hd]
    with_unfolding_all exact h
  · rename_i h2
    with_unfolding_all exact absurd rfl (h2 u)
theorem w_repr {u : U} {d : D} {p : PyData} (h1 : deepU μ u = some d) (h2 : toPy d = some p) (h3 : shOk p = true) (h : Q (.d (.str p.shown)) μ) : wE (reprU [u] μ) Q E := by
  unfold reprU
  simp only [h1, h2]
  with_unfolding_all exact wE_guard h3 h
theorem w_mt {o : U → List U → Store → Out U} {f : DEnv → Store → Out U} {g : DEnv → Store → Out (List U)} (h : wE (f δ μ) (fun u μ1 => isLs μ1 u = true ∧ wE (g δ μ1) (fun us μ2 => wE (o u us μ2) Q E) E) E) : wE (eMt o f g δ μ) Q E := by
  with_unfolding_all exact wE_bind (h.mono (fun u μ1 h => wE_guard h.1 (wE_bind h.2)) fun _ _ h => h)
theorem w_mt0 {o : U → Store → Out U} {f : DEnv → Store → Out U} (h : wE (f δ μ) (fun u μ1 => isLs μ1 u = true ∧ wE (o u μ1) Q E) E) : wE (eMt0 o f δ μ) Q E := by
  with_unfolding_all exact wE_bind (h.mono (fun u μ1 h => wE_guard h.1 h.2) fun _ _ h => h)
theorem w_app {n : Nat} {x : U} {us : List U} (e : μ[n]? = some (.lst us)) (hf : fits us.length = true) (h : Q (.d .non) (μ.set n (.lst (us ++ [x])))) : wE (appU (.own n) [x] μ) Q E := by
  unfold appU
  simp only [e]
  with_unfolding_all exact wE_guard hf h
theorem w_idx {u : U} {z : Str} {us : List U} {ys : List Str} {j : Nat} (h1 : lsU μ u = some us) (h2 : strsU us = some ys) (h3 : idxOf z ys = some j) (h : Q (.d (.int (j : Nat))) μ) : wE (idxU u [.d (.str z)] μ) Q E := by
  unfold idxU
  simp only [h1, Option.bind_some, h2, h3]
  with_unfolding_all exact h
theorem w_gidx {ys : List Str} {fa : DEnv → Store → Out (List U)} (h : wE (fa δ μ) (fun us μ1 => ∃ z j, us = [.d (.str z)] ∧ idxOf z ys = some j ∧ Q (.d (.int (j : Nat))) μ1) E) : wE (eGidx ys fa δ μ) Q E := by
  refine wE_bind (h.mono (fun us μ1 h => ?_) fun _ _ h => h)
  obtain ⟨z, j, rfl, h2, h3⟩ := h
  simp only [h2]
  with_unfolding_all exact h3
theorem w_fld {cs : List Str} {f : Str} {fo : DEnv → Store → Out U} (h : wE (fo δ μ) (fun u μ1 => ∃ c fs y, insU μ1 u = some (c, fs) ∧ cs.contains c = true ∧ fs.lookup f = some y ∧ Q y μ1) E) : wE (eFld cs f fo δ μ) Q E := by
  refine wE_bind (h.mono (fun u μ1 h => ?_) fun _ _ h => h)
  obtain ⟨c, fs, y, h1, h2, h3, h4⟩ := h
  unfold fldU
  simp only [h1]
  refine wE_guard h2 ?_
  simp only [h3]
  with_unfolding_all exact h4
theorem w_pr {c : Str} {g : List U → Store → Out U} {fo : DEnv → Store → Out U} (h : wE (fo δ μ) (fun u μ1 => (∃ fs, insU μ1 u = some (c, fs)) ∧ wE (g [u] μ1) Q fun _ _ => False) E) : wE (ePr c g fo δ μ) Q E := by
  refine wE_bind (h.mono (fun u μ1 h => ?_) fun _ _ h => h)
  obtain ⟨⟨fs, h1⟩, h2⟩ := h
  simp only [h1]
  refine wE_guard (by simp) ?_
  cases e : g [u] μ1 with
  | ok b μ2 =>
    rw [e] at h2
    with_unfolding_all exact h2
  | err x μ2 =>
    rw [e] at h2
    with_unfolding_all exact False.elim h2
  | stuck =>
    rw [e] at h2
    with_unfolding_all exact False.elim h2
theorem w_cal {n m : Nat} {g : List U → List U → Store → Out U} {fa fk : DEnv → Store → Out (List U)} (h : wE (fa δ μ) (fun us μ1 => wE (fk δ μ1) (fun ws μ2 => (us.length == n && ws.length == m) = true ∧ wE (g us ws μ2) Q E) E) E) : wE (eCal n m g fa fk δ μ) Q E := by
  with_unfolding_all exact wE_bind (h.mono (fun _ _ h => wE_bind (h.mono (fun _ _ h => wE_guard h.1 h.2) fun _ _ h => h)) fun _ _ h => h)
theorem w_mc {c m : Str} {n l : Nat} {g : List U → List U → Store → Out U} {fo : DEnv → Store → Out U} {fa fk : DEnv → Store → Out (List U)} (h : wE (fo δ μ) (fun u μ1 => hasM c m μ1 u = true ∧ wE (fa δ μ1) (fun us μ2 => wE (fk δ μ2) (fun ws μ3 => (us.length == n && ws.length == l) = true ∧ wE (g (u :: us) ws μ3) Q E) E) E) E) : wE (eMc c m n l g fo fa fk δ μ) Q E := by
  with_unfolding_all exact wE_bind (h.mono (fun u μ1 h => wE_guard h.1 (w_cal h.2)) fun _ _ h => h)
theorem w_calF {g : List U → Store → Out U} {l : List Sel} {ds ms : List D} {us ws : List U} (h : wE (g (arr l us (ds.map U.d) (ms.map U.d) ws) μ) Q E) : wE (calF g l ds ms us ws μ) Q E := by with_unfolding_all exact h
theorem w_mk {c : Str} {g : List U → List U → Store → Out U} {us ws : List U} (h : wE (g (.own μ.length :: us) ws (μ ++ [.ins c []])) (fun u μ' => u = .d .non ∧ Q (.own μ.length) μ') E) : wE (mkU c g us ws μ) Q E := by
  refine wE_bind (h.mono (fun u μ' h => ?_) fun _ _ h => h)
  obtain ⟨e, h2⟩ := h
  subst e
  with_unfolding_all exact h2
theorem w_frz {f : DEnv → Store → Out U} (h : wE (f δ μ) (fun u μ1 => wE (frzU u μ1) Q E) E) : wE (eFrz f δ μ) Q E := by with_unfolding_all exact wE_bind h
theorem setIx_own {n j : Nat} {i : Int} {us : List U} {x : U} (h : μ[n]? = some (.lst us)) (e : ixN us.length i = some j) : setIx (.own n) (.d (.int i)) x μ = some (μ.set n (.lst (us.set j x))) := by
  unfold setIx
  simp only [h, e, Option.map_some]
theorem get_len {n : Nat} {c : Cell} (h : μ[n]? = some c) : n < μ.length := (List.getElem?_eq_some_iff.mp h).1
theorem get_set {n : Nat} {c c' : Cell} (h : μ[n]? = some c) : (μ.set n c')[n]? = some c' := List.getElem?_set_self (get_len h)
theorem set_same {n : Nat} {c : Cell} (h : μ[n]? = some c) : μ.set n c = μ := by
  obtain ⟨hl, rfl⟩ := List.getElem?_eq_some_iff.mp h
  with_unfolding_all exact List.set_getElem_self hl
theorem ixN_nat {n j : Nat} (h : j < n) : ixN n (j : Int) = some j := by
  unfold ixN
  rw [if_pos (by omega), if_pos (by omega)]
  rfl
theorem atI_at {β : Type} {l : List β} {i : Int} (h0 : 0 ≤ i) (h1 : i < l.length) : atI l i = l[i.toNat]? := by
  unfold atI ixN
  rw [if_pos h0, if_pos h1]
  rfl
theorem atI_nat {β : Type} {l : List β} {i : Int} (h0 : 0 ≤ i) (h1 : i < l.length) : ∃ x, atI l i = some x ∧ x ∈ l := by
  have hl : i.toNat < l.length := by omega
  with_unfolding_all exact ⟨l[i.toNat], by rw [atI_at h0 h1, List.getElem?_eq_getElem hl], List.getElem_mem hl⟩
theorem atI_ints {xs : List Int} {i : Int} (h0 : 0 ≤ i) (h1 : i < xs.length) : ∃ x, atI ((xs.map D.int).map U.d) i = some (.d (.int x)) := by
  obtain ⟨u, e, m⟩ := atI_nat (l := (xs.map D.int).map U.d) h0 (by simpa using h1)
  simp only [List.map_map, List.mem_map] at m
  obtain ⟨x, _, rfl⟩ := m
  with_unfolding_all exact ⟨x, e⟩
/-! ### statements -/
theorem wS.mono {r : OutS} {k k' : Kn} (h : wS r k) (h1 : ∀ δ μ, k.nx δ μ → k'.nx δ μ) (h2 : ∀ u μ, k.rt u μ → k'.rt u μ) (h3 : ∀ x δ μ, k.er x δ μ → k'.er x δ μ) (h4 : ∀ δ μ, k.bk δ μ → k'.bk δ μ) (h5 : ∀ δ μ, k.ct δ μ → k'.ct δ μ) : wS r k' := by
  cases r with
  | nx δ μ => with_unfolding_all exact h1 _ _ h
  | ret u μ => with_unfolding_all exact h2 _ _ h
  | err x δ μ => with_unfolding_all exact h3 _ _ _ h
  | brk δ μ => with_unfolding_all exact h4 _ _ h
  | cnt δ μ => with_unfolding_all exact h5 _ _ h
  | stuck => with_unfolding_all exact h
theorem w_sbind {f : DEnv → Store → Out β} {l : β → DEnv → Store → OutS} (h : wE (f δ μ) (fun b μ1 => wS (l b δ μ1) k) fun x μ1 => k.er x δ μ1) : wS (sBind f l δ μ) k := by
  unfold sBind
  cases e : f δ μ with
  | ok b μ1 =>
    rw [e] at h
    with_unfolding_all exact h
  | err x μ1 =>
    rw [e] at h
    with_unfolding_all exact h
  | stuck =>
    rw [e] at h
    with_unfolding_all exact h
theorem w_seq {f g : DEnv → Store → OutS} (h : wS (f δ μ) { k with nx := fun δ' μ' => wS (g δ' μ') k }) : wS (sSeq f g δ μ) k := by
  unfold sSeq
  cases e : f δ μ with
  | nx δ' μ' =>
    rw [e] at h
    with_unfolding_all exact h
  | ret u μ' =>
    rw [e] at h
    with_unfolding_all exact h
  | err x δ' μ' =>
    rw [e] at h
    with_unfolding_all exact h
  | brk δ' μ' =>
    rw [e] at h
    with_unfolding_all exact h
  | cnt δ' μ' =>
    rw [e] at h
    with_unfolding_all exact h
  | stuck =>
    rw [e] at h
    with_unfolding_all exact h
/-- in between: what is known behind the first part -/
theorem w_seqI (I : DEnv → Store → Prop) {f g : DEnv → Store → OutS} (h : wS (f δ μ) { k with nx := I }) (h2 : ∀ δ' μ', I δ' μ' → wS (g δ' μ') k) : wS (sSeq f g δ μ) k := by
  with_unfolding_all exact w_seq (h.mono (fun δ' μ' q => h2 δ' μ' q) (fun _ _ q => q) (fun _ _ _ q => q) (fun _ _ q => q) fun _ _ q => q)
theorem w_next (h : k.nx δ μ) : wS (sNext δ μ) k := by with_unfolding_all exact h
theorem w_brk (h : k.bk δ μ) : wS (sBreak δ μ) k := by with_unfolding_all exact h
theorem w_cnt (h : k.ct δ μ) : wS (sCont δ μ) k := by with_unfolding_all exact h
theorem w_drop {f : DEnv → Store → Out U} (h : wE (f δ μ) (fun _ μ1 => k.nx δ μ1) fun x μ1 => k.er x δ μ1) : wS (sDrop f δ μ) k := by with_unfolding_all exact w_sbind h
theorem w_ret {f : DEnv → Store → Out U} (h : wE (f δ μ) (fun u μ1 => k.rt u μ1) fun x μ1 => k.er x δ μ1) : wS (sRet f δ μ) k := by with_unfolding_all exact w_sbind h
theorem w_retN (h : k.rt (.d .non) μ) : wS (sRetN δ μ) k := by with_unfolding_all exact h
theorem w_set {i : Nat} {f : DEnv → Store → Out U} (h : wE (f δ μ) (fun u μ1 => k.nx (δ.set i (some u)) μ1) fun x μ1 => k.er x δ μ1) : wS (sSet i f δ μ) k := by with_unfolding_all exact w_sbind h
theorem w_sif {c : DEnv → Store → Out Bool} {f g : DEnv → Store → OutS} (h : wE (c δ μ) (fun b μ1 => (b = true → wS (f δ μ1) k) ∧ (b = false → wS (g δ μ1) k)) fun x μ1 => k.er x δ μ1) : wS (sIf c f g δ μ) k := by
  refine w_sbind (h.mono (fun b μ1 h => ?_) fun _ _ h => h)
  cases b with
  | true => with_unfolding_all exact h.1 rfl
  | false => with_unfolding_all exact h.2 rfl
theorem w_asg {g : U → DEnv → Option DEnv} {f : DEnv → Store → Out U} (h : wE (f δ μ) (fun u μ1 => ∃ δ', g u δ = some δ' ∧ k.nx δ' μ1) fun x μ1 => k.er x δ μ1) : wS (sAsg g f δ μ) k := by
  refine w_sbind (h.mono (fun u μ1 h => ?_) fun _ _ h => h)
  obtain ⟨δ', h1, h2⟩ := h
  simp only [h1]
  with_unfolding_all exact h2
theorem w_aug {i : Nat} {o : Int → Int → Int} {f : DEnv → Store → Out U} {a : Int} (e : δ[i]? = some (some (.d (.int a)))) (h : wE (f δ μ) (fun u μ1 => ∃ j, u = .d (.int j) ∧ k.nx (δ.set i (some (.d (.int (o a j))))) μ1) fun x μ1 => k.er x δ μ1) : wS (sAug i o f δ μ) k := by
  unfold sAug
  rw [e]
  refine w_sbind (h.mono (fun u μ1 h => ?_) fun _ _ h => h)
  obtain ⟨j, rfl, h2⟩ := h
  with_unfolding_all exact h2
theorem w_setIx {fo fi fe : DEnv → Store → Out U} (h : wE (fe δ μ) (fun x μ1 => wE (fo δ μ1) (fun o μ2 => wE (fi δ μ2) (fun i μ3 => ∃ μ4, setIx o i x μ3 = some μ4 ∧ k.nx δ μ4) fun x μ1 => k.er x δ μ1) fun x μ1 => k.er x δ μ1) fun x μ1 => k.er x δ μ1) : wS (sSetIx fo fi fe δ μ) k := by
  refine w_sbind (h.mono (fun u μ1 h => w_sbind (h.mono (fun o μ2 h => w_sbind (h.mono (fun i μ3 h => ?_) fun _ _ h => h)) fun _ _ h => h)) fun _ _ h => h)
  obtain ⟨μ4, h1, h2⟩ := h
  simp only [h1]
  with_unfolding_all exact h2
theorem w_sfld {cs : List Str} {f : Str} {fo fe : DEnv → Store → Out U} (h : wE (fe δ μ) (fun x μ1 => wE (fo δ μ1) (fun o μ2 => ∃ μ3, setFld cs f o x μ2 = some μ3 ∧ k.nx δ μ3) fun x μ1 => k.er x δ μ1) fun x μ1 => k.er x δ μ1) : wS (sFldU cs f fo fe δ μ) k := by
  refine w_sbind (h.mono (fun u μ1 h => w_sbind (h.mono (fun o μ2 h => ?_) fun _ _ h => h)) fun _ _ h => h)
  obtain ⟨μ4, h1, h2⟩ := h
  simp only [h1]
  with_unfolding_all exact h2
theorem w_raise {c f : Str} {fe : DEnv → Store → Out U} (h : wE (fe δ μ) (fun u μ1 => ∃ y, u = .d y ∧ k.er ⟨c, [f], [y]⟩ δ μ1) fun x μ1 => k.er x δ μ1) : wS (sRaise c f fe δ μ) k := by
  refine w_sbind (h.mono (fun u μ1 h => ?_) fun _ _ h => h)
  obtain ⟨y, rfl, h2⟩ := h
  with_unfolding_all exact h2
theorem w_try {cs : List Str} {f : DEnv → Store → OutS} {hs : List (Str × Nat × HF)} (h : wS (f δ μ) { k with er := fun x δ' μ' => wS (handle cs hs x δ' μ') k }) : wS (sTry cs f hs δ μ) k := by
  unfold sTry
  cases e : f δ μ with
  | nx δ' μ' =>
    rw [e] at h
    with_unfolding_all exact h
  | ret u μ' =>
    rw [e] at h
    with_unfolding_all exact h
  | err x δ' μ' =>
    rw [e] at h
    with_unfolding_all exact h
  | brk δ' μ' =>
    rw [e] at h
    with_unfolding_all exact h
  | cnt δ' μ' =>
    rw [e] at h
    with_unfolding_all exact h
  | stuck =>
    rw [e] at h
    with_unfolding_all exact h
theorem w_for {g : U → DEnv → Option DEnv} {f : DEnv → Store → Out (List U)} {body : DEnv → Store → OutS} (h : wE (f δ μ) (fun us μ1 => wS (forL g body us δ μ1) k) fun x μ1 => k.er x δ μ1) : wS (sFor g f body δ μ) k := by with_unfolding_all exact w_sbind h
theorem w_iu {f : DEnv → Store → Out U} (h : wE (f δ μ) (fun u μ1 => ∃ us, itemsU u = some us ∧ Ql us μ1) E) : wE (iU f δ μ) Ql E := by
  refine wE_bind (h.mono (fun u μ1 h => ?_) fun _ _ h => h)
  obtain ⟨us, h1, h2⟩ := h
  simp only [h1]
  with_unfolding_all exact h2
theorem w_rng1 {f : DEnv → Store → Out (List U)} (h : wE (f δ μ) (fun us μ1 => ∃ j : Int, us = [.d (.int j)] ∧ (-(2 ^ 62) ≤ j ∧ j < 2 ^ 62) ∧ Ql (rng 0 j.toNat) μ1) E) : wE (iRng1 f δ μ) Ql E := by
  refine wE_bind (h.mono (fun us μ1 h => ?_) fun _ _ h => h)
  obtain ⟨j, rfl, h2, h3⟩ := h
  with_unfolding_all exact wE_guard (decide_eq_true h2) h3
/-- a loop by an invariant over what is left -/
theorem w_forL {g : U → DEnv → Option DEnv} {body : DEnv → Store → OutS} (I : List U → DEnv → Store → Prop) {us : List U} (h0 : I us δ μ)
    (hs : ∀ u r δ μ, I (u :: r) δ μ → ∃ δ1, g u δ = some δ1 ∧ wS (body δ1 μ) { k with nx := I r, ct := I r, bk := k.nx }) (hn : ∀ δ μ, I [] δ μ → k.nx δ μ) : wS (forL g body us δ μ) k := by
  induction us generalizing δ μ with
  | nil => with_unfolding_all exact hn δ μ h0
  | cons u r ih =>
    obtain ⟨δ1, e, h⟩ := hs u r δ μ h0
    unfold forL
    simp only [e]
    cases eb : body δ1 μ with
    | nx δ2 μ2 =>
      rw [eb] at h
      with_unfolding_all exact ih h
    | cnt δ2 μ2 =>
      rw [eb] at h
      with_unfolding_all exact ih h
    | brk δ2 μ2 =>
      rw [eb] at h
      with_unfolding_all exact h
    | ret w μ2 =>
      rw [eb] at h
      with_unfolding_all exact h
    | err x δ2 μ2 =>
      rw [eb] at h
      with_unfolding_all exact h
    | stuck =>
      rw [eb] at h
      with_unfolding_all exact h
/-- a loop by an invariant over the turns done -/
theorem w_forI {g : U → DEnv → Option DEnv} {body : DEnv → Store → OutS} (I : Nat → DEnv → Store → Prop) {us : List U} (h0 : I 0 δ μ)
    (hs : ∀ i u δ μ, us[i]? = some u → I i δ μ → ∃ δ1, g u δ = some δ1 ∧ wS (body δ1 μ) { k with nx := I (i + 1), ct := I (i + 1), bk := k.nx }) (hn : ∀ δ μ, I us.length δ μ → k.nx δ μ) : wS (forL g body us δ μ) k := by
  refine w_forL (fun r δ μ => ∃ i, i ≤ us.length ∧ r = us.drop i ∧ I i δ μ) ⟨0, Nat.zero_le _, rfl, h0⟩ (fun u r δ μ h => ?_) fun δ μ h => ?_
  · obtain ⟨i, hi, e, h⟩ := h
    have hl : i < us.length := by
      by_cases q : i < us.length
      · with_unfolding_all exact q
      · rw [List.drop_eq_nil_of_le (by omega)] at e
        cases e
    rw [List.drop_eq_getElem_cons hl] at e
    obtain ⟨e1, e2⟩ := List.cons.inj e
    obtain ⟨δ1, h1, h2⟩ := hs i u δ μ (by rw [List.getElem?_eq_getElem hl, e1]) h
    with_unfolding_all exact ⟨δ1, h1, h2.mono (fun _ _ q => ⟨i + 1, hl, e2, q⟩) (fun _ _ q => q) (fun _ _ _ q => q) (fun _ _ q => q) fun _ _ q => ⟨i + 1, hl, e2, q⟩⟩
  · obtain ⟨i, hi, e, h⟩ := h
    have hl : us.length ≤ i := by
      have := congrArg List.length e
      simp at this
      omega
    rw [Nat.le_antisymm hi hl] at h
    with_unfolding_all exact hn δ μ h
theorem rng_at {lo : Int} {n i : Nat} {u : U} (h : (rng lo n)[i]? = some u) : i < n ∧ u = .d (.int (lo + i)) := by
  unfold rng at h
  rw [List.getElem?_map, Option.map_eq_some_iff] at h
  obtain ⟨a, h1, h2⟩ := h
  have hl : i < n := by
    have := (List.getElem?_eq_some_iff.mp h1).1
    simpa using this
  rw [List.getElem?_range hl] at h1
  cases h1
  with_unfolding_all exact ⟨hl, h2.symm⟩
@[simp] theorem rng_len {lo : Int} {n : Nat} : (rng lo n).length = n := by simp [rng]
/-- range -/
theorem w_forR {g : U → DEnv → Option DEnv} {body : DEnv → Store → OutS} (I : Nat → DEnv → Store → Prop) {lo : Int} {n : Nat} (h0 : I 0 δ μ)
    (hs : ∀ (i : Nat) δ μ, i < n → I i δ μ → ∃ δ1, g (.d (.int (lo + i))) δ = some δ1 ∧ wS (body δ1 μ) { k with nx := I (i + 1), ct := I (i + 1), bk := k.nx }) (hn : ∀ δ μ, I n δ μ → k.nx δ μ) : wS (forL g body (rng lo n) δ μ) k := by
  refine w_forI I h0 (fun i u δ μ e h => ?_) fun δ μ h => hn δ μ (by rwa [rng_len] at h)
  obtain ⟨h1, rfl⟩ := rng_at e
  with_unfolding_all exact hs i δ μ h1 h
/-! ### defs -/
theorem w_fn {N : List Str} {np : Nat} {F : DEnv → Store → OutS} {us : List U} (hl : us.length = np) (h : wS (F (startE N us) μ) ⟨fun _ μ' => Q (.d .non) μ', Q, fun x _ μ' => E x μ', fun _ _ => False, fun _ _ => False⟩) : wE (fnU N np F us μ) Q E := by
  unfold fnU
  rw [if_pos hl]
  cases e : F (startE N us) μ with
  | nx δ2 μ2 =>
    rw [e] at h
    with_unfolding_all exact h
  | cnt δ2 μ2 =>
    rw [e] at h
    with_unfolding_all exact h
  | brk δ2 μ2 =>
    rw [e] at h
    with_unfolding_all exact h
  | ret w μ2 =>
    rw [e] at h
    with_unfolding_all exact h
  | err x δ2 μ2 =>
    rw [e] at h
    with_unfolding_all exact h
  | stuck =>
    rw [e] at h
    with_unfolding_all exact h
/-- a store cut back -/
def Cut (μ μ' : Store) : Bool := (μ'.take μ.length).all (cellBelow μ.length)
theorem w_trunc {g : List U → Store → Out U} {us : List U} (h : wE (g us μ) (fun u μ' => below μ.length u = true ∧ Cut μ μ' = true ∧ Q u (μ'.take μ.length)) fun x μ' => Cut μ μ' = true ∧ E x (μ'.take μ.length)) : wE (trunc g us μ) Q E := by
  unfold trunc
  cases e : g us μ with
  | ok b μ2 =>
    rw [e] at h
    unfold wE at h
    obtain ⟨h1, h2, h3⟩ := h
    unfold Cut at h2
    with_unfolding_all exact wE_guard (by rw [h1, h2]; rfl) h3
  | err x μ2 =>
    rw [e] at h
    unfold wE at h
    with_unfolding_all exact wE_guard h.1 h.2
  | stuck =>
    rw [e] at h
    with_unfolding_all exact h
/-! ### comprehensions, slices -/
theorem w_lc {g : U → DEnv → Option DEnv} {fi : DEnv → Store → Out (List U)} {tt : DEnv → Store → Out Bool} {te : DEnv → Store → Out U} {vs : List Nat} {fin : List U → Store → Out U} (h : wE (fi δ μ) (fun us μ1 => wE (lcL g tt te (wipeD δ vs) us [] μ1) (fun ys μ2 => wE (fin ys μ2) Q E) E) E) : wE (eLc g fi tt te vs fin δ μ) Q E :=
  wE_bind (h.mono (fun _ _ h => wE_bind h) fun _ _ h => h)
theorem noErr_w {r : Out β} {Q : β → Store → Prop} (h : wE r Q fun _ _ => False) : wE (noErr r) Q E := by
  cases r with
  | ok b μ => with_unfolding_all exact h
  | err x μ => with_unfolding_all exact False.elim h
  | stuck => with_unfolding_all exact h
theorem w_lcL {g : U → DEnv → Option DEnv} {tt : DEnv → Store → Out Bool} {te : DEnv → Store → Out U} (I : List U → List U → Store → Prop) {us acc : List U} (h0 : I us acc μ)
    (hs : ∀ u r acc μ, I (u :: r) acc μ → ∃ δ1, g u δ = some δ1 ∧ wE (tt δ1 μ) (fun b μ1 => (b = true → wE (te δ1 μ1) (fun y μ2 => fits acc.length = true ∧ I r (acc ++ [y]) μ2) fun _ _ => False) ∧ (b = false → I r acc μ1)) fun _ _ => False) (hn : ∀ acc μ, I [] acc μ → Ql acc μ) : wE (lcL g tt te δ us acc μ) Ql E := by
  induction us generalizing acc μ with
  | nil =>
    have := hn acc μ h0
    with_unfolding_all exact this
  | cons u r ih =>
    obtain ⟨δ1, e, h⟩ := hs u r acc μ h0
    unfold lcL
    simp only [e]
    refine wE_bind ((noErr_w h).mono (fun b μ1 h => ?_) fun _ _ h => h)
    cases b with
    | true =>
      refine wE_bind ((noErr_w (h.1 rfl)).mono (fun y μ2 h => ?_) fun _ _ h => h)
      exact wE_guard h.1 (ih h.2)
    | false => exact ih (h.2 rfl)
theorem w_yes (h : Qb true μ) : wE (tYesD δ μ) Qb E := by with_unfolding_all exact h
theorem w_finD {us : List U} {ds : List D} (e : allD us = some ds) (h : Q (.d (.lst ds)) μ) : wE (finD us μ) Q E := by
  unfold finD
  rw [e]
  with_unfolding_all exact h
theorem w_finC {us : List U} (h : Q (.own μ.length) (μ ++ [.lst us])) : wE (finC us μ) Q E := by with_unfolding_all exact h
theorem w_sl {f : DEnv → Store → Out U} {l h : DEnv → Store → Out (Option Int)} (hp : wE (f δ μ) (fun u μ1 => wE (l δ μ1) (fun lo μ2 => wE (h δ μ2) (fun hi μ3 => wE (slU u lo hi μ3) Q E) E) E) E) : wE (eSl f l h δ μ) Q E :=
  wE_bind (hp.mono (fun _ _ h => wE_bind (h.mono (fun _ _ h => wE_bind h) fun _ _ h => h)) fun _ _ h => h)
theorem w_onone {Qo : Option Int → Store → Prop} (h : Qo none μ) : wE (oNone δ μ) Qo E := by with_unfolding_all exact h
theorem w_osome {Qo : Option Int → Store → Prop} {f : DEnv → Store → Out U} (h : wE (f δ μ) (fun u μ1 => ∃ i, u = .d (.int i) ∧ Qo (some i) μ1) E) : wE (oSome f δ μ) Qo E := by
  refine wE_bind (h.mono (fun u μ1 h => ?_) fun _ _ h => h)
  obtain ⟨i, e, h2⟩ := h
  subst e
  with_unfolding_all exact h2
theorem cut_map {f : γ → β} (xs : List γ) (lo hi : Option Int) : cutL (xs.map f) lo hi = (cutL xs lo hi).map f := by
  unfold cutL
  rw [List.length_map, List.map_take, List.map_drop]
theorem w_slF {ds : List D} {lo hi : Option Int} (h : Q (.d (.lst (cutL ds lo hi))) μ) : wE (slU (.d (.fl ds)) lo hi μ) Q E := by with_unfolding_all exact h
theorem w_slL {ds : List D} {lo hi : Option Int} (h : Q (.d (.lst (cutL ds lo hi))) μ) : wE (slU (.d (.lst ds)) lo hi μ) Q E := by
  unfold slU
  simp only [lsU_d, cut_map, allD_map]
  with_unfolding_all exact h
/-! ### instances, suites -/
theorem insU_own {n : Nat} {c : Str} {fs : List (Str × U)} (h : μ[n]? = some (.ins c fs)) : insU μ (.own n) = some (c, fs) := by simp [insU, h]
theorem hasM_own {n : Nat} {c m : Str} {fs : List (Str × U)} (h : μ[n]? = some (.ins c fs)) (hl : fs.lookup m = none) : hasM c m μ (.own n) = true := by simp [hasM, insU_own h, hl]
theorem setFld_own {cs : List Str} {f c : Str} {n : Nat} {x : U} {fs : List (Str × U)} (h : μ[n]? = some (.ins c fs)) (hc : cs.contains c = true) (hl : decide (fs.length < 1000) = true) : setFld cs f (.own n) x μ = some (μ.set n (.ins c (putU f x fs))) := by
  unfold setFld
  simp only [h, hc, hl, Bool.and_self, if_true]
theorem w_hit {cs : List Str} {h : Str} {i : Nat} {F : HF} {r : List (Str × Nat × HF)} {x : Err} (h1 : cs.contains x.c = true) (h2 : exmD x.c h = true) (h3 : wS (F 0 none x (δ.set i (some (.exc 0 none x))) μ) ⟨fun δ μ => k.nx (δ.set i none) μ, k.rt, fun _ _ _ => False, fun δ μ => k.bk (δ.set i none) μ, fun δ μ => k.ct (δ.set i none) μ⟩) : wS (handle cs ((h, i, F) :: r) x δ μ) k := by
  unfold handle
  simp only [h1, h2]
  cases e : F 0 none x (δ.set i (some (.exc 0 none x))) μ with
  | nx δ' μ' =>
    rw [e] at h3
    with_unfolding_all exact h3
  | ret u μ' =>
    rw [e] at h3
    with_unfolding_all exact h3
  | err x δ' μ' =>
    rw [e] at h3
    with_unfolding_all exact h3
  | brk δ' μ' =>
    rw [e] at h3
    with_unfolding_all exact h3
  | cnt δ' μ' =>
    rw [e] at h3
    with_unfolding_all exact h3
  | stuck =>
    rw [e] at h3
    with_unfolding_all exact h3
theorem w_miss {cs : List Str} {h : Str} {i : Nat} {F : HF} {r : List (Str × Nat × HF)} {x : Err} (h1 : cs.contains x.c = true) (h2 : exmD x.c h = false) (h3 : wS (handle cs r x δ μ) k) : wS (handle cs ((h, i, F) :: r) x δ μ) k := by
  rw [show handle cs ((h, i, F) :: r) x δ μ = handle cs r x δ μ by
    conv => lhs; unfold handle
    simp only [h1, h2]]
  with_unfolding_all exact h3
theorem w_xf {x : Err} {h n : Str} {i : Nat} {y : D} (e : δ[i]? = some (some (.exc 0 none x))) (hc : x.c = h) (hl : (x.ns.zip x.ds).lookup n = some y) (hq : Q (.d y) μ) : wE (eXf 0 none x h n i δ μ) Q E := by
  unfold eXf
  simp only [e, hc, hl, and_self, if_true]
  with_unfolding_all exact hq
theorem get_ap {l : Store} {j : Nat} : (μ ++ l)[μ.length + j]? = l[j]? := by
  rw [List.getElem?_append_right (Nat.le_add_right _ _), Nat.add_sub_cancel_left]
theorem get_ap0 {l : Store} {c : Cell} : (μ ++ c :: l)[μ.length]? = some c := by
  rw [List.getElem?_append_right (Nat.le_refl _), Nat.sub_self]
  rfl
theorem set_ap0 {l : Store} {c c' : Cell} : (μ ++ c :: l).set μ.length c' = μ ++ c' :: l := by
  rw [List.set_append_right _ _ (Nat.le_refl _), Nat.sub_self]
  rfl
/-! ### stores that are well laid -/
def Wf (μ : Store) : Prop := μ.all (cellBelow μ.length) = true
theorem Wf.set {n : Nat} {c : Cell} (h : Wf μ) (hc : cellBelow μ.length c = true) : Wf (μ.set n c) := by
  unfold Wf at h ⊢
  rw [List.length_set, List.all_eq_true] at *
  intro x hx
  rcases List.mem_or_eq_of_mem_set hx with hx | rfl
  · with_unfolding_all exact h x hx
  · with_unfolding_all exact hc
theorem below_mono {n m : Nat} (h : n ≤ m) {u : U} (hb : below n u = true) : below m u = true := by
  cases u with
  | d x => rfl
  | own i =>
    have : i < n := of_decide_eq_true hb
    with_unfolding_all exact decide_eq_true (show i < m by omega)
  | exc a d x => rfl
theorem cellBelow_mono {n m : Nat} (h : n ≤ m) {c : Cell} (hb : cellBelow n c = true) : cellBelow m c = true := by
  cases c with
  | lst us =>
    simp only [cellBelow, List.all_eq_true] at hb ⊢
    with_unfolding_all exact fun u hu => below_mono h (hb u hu)
  | ins c fs =>
    simp only [cellBelow, List.all_eq_true] at hb ⊢
    with_unfolding_all exact fun u hu => below_mono h (hb u hu)
  | dead => rfl
theorem Wf.app {ex : Store} (h : Wf μ) (he : ex.all (cellBelow (μ.length + ex.length)) = true) : Wf (μ ++ ex) := by
  unfold Wf at h ⊢
  rw [List.length_append, List.all_append, Bool.and_eq_true]
  refine ⟨?_, he⟩
  rw [List.all_eq_true] at h ⊢
  with_unfolding_all exact fun c hc => cellBelow_mono (Nat.le_add_right _ _) (h c hc)
theorem get_app {ex : Store} {n : Nat} {c : Cell} (h : μ[n]? = some c) : (μ ++ ex)[n]? = some c := pre_get h
theorem get_last {c : Cell} {n : Nat} (e : n = μ.length) : (μ ++ [c])[n]? = some c := by simp [e]
theorem set_app {ex : Store} {n : Nat} {c c' : Cell} (h : μ[n]? = some c) : (μ ++ ex).set n c' = μ.set n c' ++ ex := List.set_append_left _ _ (get_len h)
theorem set_last {c c' : Cell} {n : Nat} (e : n = μ.length) : (μ ++ [c]).set n c' = μ ++ [c'] := by simp [e]
theorem isLs_own {n : Nat} {us : List U} (h : μ[n]? = some (.lst us)) : isLs μ (.own n) = true := by simp [isLs, lsU, h]
@[simp] theorem data_below (ds : List D) (n : Nat) : cellBelow n (.lst (ds.map U.d)) = true := by
  induction ds with
  | nil => rfl
  | cons d r ih => with_unfolding_all exact ih
@[simp] theorem strs_flat (ys : List Str) : (ys.map D.str).all flatD = true := by
  induction ys with
  | nil => rfl
  | cons d r ih => with_unfolding_all exact ih
theorem one_below {n : Nat} {c : Cell} (h : cellBelow n c = true) : [c].all (cellBelow n) = true := by simp [h]
theorem cut_same {μ μ' : Store} (h : Wf μ') (hl : μ'.length = μ.length) : Cut μ μ' = true := by
  unfold Cut
  rw [← hl, List.take_length]
  with_unfolding_all exact h
/-- behind a def: μ1 is the old store as it stands now, further cells are dropped -/
theorem back_ok {u : U} {μ1 ex : Store} (wf : Wf μ1) (hl : μ1.length = μ.length) (hu : below μ.length u = true) (h : Q u μ1) : below μ.length u = true ∧ Cut μ (μ1 ++ ex) = true ∧ Q u ((μ1 ++ ex).take μ.length) := by
  have e : (μ1 ++ ex).take μ.length = μ1 := by rw [← hl, List.take_left]
  refine ⟨hu, ?_, ?_⟩
  · unfold Cut
    rw [e, ← hl]
    with_unfolding_all exact wf
  · rw [e]
    with_unfolding_all exact h
theorem back_same {u : U} {μ1 : Store} (wf : Wf μ1) (hl : μ1.length = μ.length) (hu : below μ.length u = true) (h : Q u μ1) : below μ.length u = true ∧ Cut μ μ1 = true ∧ Q u (μ1.take μ.length) := by
  simpa using back_ok (ex := []) wf hl hu h
theorem back_err {x : Err} {μ1 ex : Store} (wf : Wf μ1) (hl : μ1.length = μ.length) (h : E x μ1) : Cut μ (μ1 ++ ex) = true ∧ E x ((μ1 ++ ex).take μ.length) := by
  have e : (μ1 ++ ex).take μ.length = μ1 := by rw [← hl, List.take_left]
  refine ⟨?_, ?_⟩
  · unfold Cut
    rw [e, ← hl]
    with_unfolding_all exact wf
  · rw [e]
    with_unfolding_all exact h
theorem w_frzL {n : Nat} {us : List U} {ds : List D} (h1 : μ[n]? = some (.lst us)) (h2 : allD us = some ds) (h : Q (.d (.lst ds)) (μ.set n .dead)) : wE (frzU (.own n) μ) Q E := by
  unfold frzU
  simp only [h1, h2]
  with_unfolding_all exact h
end
end HB
end
section
set_option Elab.async false
set_option linter.all false
set_option maxRecDepth 100000
set_option maxHeartbeats 4000000
namespace HB
open PySem L2
/-! what repr can show -/
structure OkP (p : PyData) (dp wt : Nat) : Prop where
  sh : p.showable = true
  cl : p.canLay0 = true
  dp : p.depth ≤ dp
  wt : p.weight ≤ wt
  sm : p.intsShort 40 = true
theorem OkP.ok {p : PyData} {dp wt : Nat} (h : OkP p dp wt) (h1 : dp ≤ 64) (h2 : wt ≤ 300000) : shOk p = true := by
  have hz := PyData.shown_le 40 (by decide) p (PyData.leavesShort_of_canLay0 40 p h.cl h.sm)
  have hw : (40 + 2) * p.weight ≤ 42 * 300000 := Nat.mul_le_mul (Nat.le_refl _) (Nat.le_trans h.wt h2)
  unfold shOk
  simp only [h.sh, h.cl, Bool.true_and, Bool.and_eq_true, decide_eq_true_eq]
  exact ⟨Nat.le_trans h.dp h1, decide_eq_true (by omega)⟩
structure OkPL (ps : List PyData) (dp wt : Nat) : Prop where
  sh : PyData.showableAll ps = true
  cl : PyData.canLayAll0 ps = true
  dp : PyData.depthAll ps ≤ dp
  wt : PyData.weightAll ps ≤ wt
  sm : PyData.intsShortAll 40 ps = true
/-- data that repr can show: its depth, its weight -/
def DOk (d : D) (dp wt : Nat) : Prop := ∃ p, toPy d = some p ∧ OkP p dp wt
def DOkL (ds : List D) (dp wt : Nat) : Prop := ∃ ps, toPyL ds = some ps ∧ OkPL ps dp wt
theorem DOk.non {dp wt : Nat} : DOk .non dp wt := ⟨.none, rfl, rfl, rfl, Nat.zero_le _, Nat.zero_le _, rfl⟩
theorem DOk.bl {b : Bool} {dp wt : Nat} : DOk (.bl b) dp wt := ⟨.bool b, rfl, rfl, rfl, Nat.zero_le _, Nat.zero_le _, rfl⟩
theorem log2_lt {n k : Nat} (h : n < 2 ^ k) (hk : 0 < k) : n.log2 < k := by
  by_cases h0 : n = 0
  · subst h0
    simpa using hk
  · exact (Nat.log2_lt h0).mpr h
theorem DOk.int {i : Int} {dp wt : Nat} (h : i.natAbs < 10 ^ 38) (hw : 128 ≤ wt) : DOk (.int i) dp wt := by
  have h1 : i.natAbs < 2 ^ 127 := Nat.lt_of_lt_of_le h (by decide)
  have h2 := log2_lt h1 (by decide)
  refine ⟨.int i, rfl, ?_, rfl, Nat.zero_le _, ?_, ?_⟩
  · simp only [PyData.showable, decide_eq_true_eq]
    omega
  · simp only [PyData.weight]
    split <;> omega
  · have e := int_text_length_le10 (k := 38) (by decide) h
    simp only [PyData.intsShort, decide_eq_true_eq]
    show (Str.ofString (toString i)).length ≤ 40
    rw [ofString_length]
    omega
theorem DOk.str {x : Str} {dp wt : Nat} (h : PyData.strOk x = true) (hw : x.length ≤ wt) : DOk (.str x) dp wt := ⟨.str x, rfl, rfl, h, Nat.zero_le _, hw, rfl⟩
theorem DOkL.nil {dp wt : Nat} : DOkL [] dp wt := ⟨[], rfl, rfl, rfl, Nat.zero_le _, Nat.zero_le _, rfl⟩
theorem DOkL.cons {d : D} {ds : List D} {dp wt w1 w2 : Nat} (h : DOk d dp w1) (r : DOkL ds dp w2) (hw : w1 + 1 + w2 ≤ wt) : DOkL (d :: ds) dp wt := by
  obtain ⟨p, e1, h1⟩ := h
  obtain ⟨ps, e2, h2⟩ := r
  refine ⟨p :: ps, by simp only [toPyL, e1, e2], ?_, ?_, ?_, ?_, ?_⟩
  · simp only [PyData.showableAll, h1.sh, h2.sh, Bool.and_self]
  · simp only [PyData.canLayAll0, h1.cl, h2.cl, Bool.and_self]
  · simp only [PyData.depthAll]
    exact Nat.max_le.mpr ⟨h1.dp, h2.dp⟩
  · have a := h1.wt
    have b := h2.wt
    simp only [PyData.weightAll]
    omega
  · simp only [PyData.intsShortAll, h1.sm, h2.sm, Bool.and_self]
theorem DOk.tup {ds : List D} {dp wt : Nat} (h : DOkL ds dp wt) : DOk (.tup ds) (dp + 1) wt := by
  obtain ⟨ps, e, h⟩ := h
  exact ⟨.tuple ps, by simp only [toPy, e, Option.map_some], h.sh, h.cl, Nat.succ_le_succ h.dp, h.wt, h.sm⟩
theorem DOk.lst {ds : List D} {dp wt : Nat} (h : DOkL ds dp wt) : DOk (.lst ds) (dp + 1) wt := by
  obtain ⟨ps, e, h⟩ := h
  exact ⟨.list ps, by simp only [toPy, e, Option.map_some], h.sh, h.cl, Nat.succ_le_succ h.dp, h.wt, h.sm⟩
def shw (d : D) : Str := match toPy d with
  | some p => p.shown
  | none => ""
theorem w_reprD {μ : Store} {u : U} {d : D} {dp wt : Nat} {Q : U → Store → Prop} {E : Err → Store → Prop} (h1 : deepU μ u = some d) (hd : DOk d dp wt) (hdp : dp ≤ 64) (hwt : wt ≤ 300000) (h : Q (.d (.str (shw d))) μ) : wE (reprU [u] μ) Q E := by
  obtain ⟨p, e, ok⟩ := hd
  refine w_repr h1 e (ok.ok hdp hwt) ?_
  unfold shw at h
  rw [e] at h
  exact h
/-! ### plain data: what is said of it, its depth, its size -/
mutual
def Pl : D → Prop
  | .non => True
  | .bl _ => True
  | .int i => i.natAbs < 10 ^ 38
  | .str x => PyData.strOk x = true ∧ x.length ≤ 128
  | .tup ds => PlL ds
  | .lst ds => PlL ds
  | .fl _ => False
  | .ob _ _ _ => False
def PlL : List D → Prop
  | [] => True
  | d :: r => Pl d ∧ PlL r
end
mutual
def dep : D → Nat
  | .tup ds => depL ds + 1
  | .lst ds => depL ds + 1
  | _ => 0
def depL : List D → Nat
  | [] => 0
  | d :: r => max (dep d) (depL r)
end
mutual
def sz : D → Nat
  | .tup ds => szL ds
  | .lst ds => szL ds
  | _ => 1
def szL : List D → Nat
  | [] => 0
  | d :: r => sz d + 1 + szL r
end
theorem DOk.mono {d : D} {a b a' b' : Nat} (h : DOk d a b) (h1 : a ≤ a') (h2 : b ≤ b') : DOk d a' b' := by
  obtain ⟨p, e, k⟩ := h
  exact ⟨p, e, k.sh, k.cl, Nat.le_trans k.dp h1, Nat.le_trans k.wt h2, k.sm⟩
theorem DOkL.mono {d : List D} {a b a' b' : Nat} (h : DOkL d a b) (h1 : a ≤ a') (h2 : b ≤ b') : DOkL d a' b' := by
  obtain ⟨p, e, k⟩ := h
  exact ⟨p, e, k.sh, k.cl, Nat.le_trans k.dp h1, Nat.le_trans k.wt h2, k.sm⟩
mutual
theorem Pl.ok : ∀ {d : D}, Pl d → DOk d (dep d) (128 * sz d)
  | .non, _ => .non
  | .bl _, _ => .bl
  | .int i, h => .int h (by simp [sz])
  | .str x, h => .str h.1 (by have := h.2; simp [sz]; omega)
  | .tup ds, h => by
    unfold dep sz
    exact .tup (PlL.ok (ds := ds) h)
  | .lst ds, h => by
    unfold dep sz
    exact .lst (PlL.ok (ds := ds) h)
  | .fl _, h => h.elim
  | .ob _ _ _, h => h.elim
theorem PlL.ok : ∀ {ds : List D}, PlL ds → DOkL ds (depL ds) (128 * szL ds)
  | [], _ => .nil
  | d :: r, h => by
    unfold depL szL
    exact .cons ((Pl.ok h.1).mono (Nat.le_max_left _ _) (Nat.le_refl _)) ((PlL.ok h.2).mono (Nat.le_max_right _ _) (Nat.le_refl _)) (by omega)
end
theorem plL_iff {ds : List D} : PlL ds ↔ ∀ d ∈ ds, Pl d := by
  induction ds with
  | nil => simp [PlL]
  | cons d r ih => simp [PlL, ih]
theorem depL_le {ds : List D} {k : Nat} (h : ∀ d ∈ ds, dep d ≤ k) : depL ds ≤ k := by
  induction ds with
  | nil => simp [depL]
  | cons d r ih =>
    simp only [depL]
    exact Nat.max_le.mpr ⟨h d (by simp), ih fun e he => h e (by simp [he])⟩
theorem szL_le {ds : List D} {k : Nat} (h : ∀ d ∈ ds, sz d + 1 ≤ k) : szL ds ≤ ds.length * k := by
  induction ds with
  | nil => simp [szL]
  | cons d r ih =>
    have h1 := h d (by simp)
    have h2 := ih fun e he => h e (by simp [he])
    simp only [szL, List.length_cons, Nat.add_mul]
    omega
/-- data that == and repr take -/
structure Nice (d : D) : Prop where
  pl : Pl d
  dp : dep d ≤ 30
  sz : sz d ≤ 2000
theorem Nice.of_all {ds : List D} {k n : Nat} (h : ∀ d ∈ ds, Pl d ∧ dep d ≤ 29 ∧ HB.sz d + 1 ≤ k) (hl : ds.length ≤ n) (hk : n * k ≤ 2000) : Nice (.lst ds) := by
  refine ⟨plL_iff.mpr fun d hd => (h d hd).1, ?_, ?_⟩
  · unfold dep
    have := depL_le (k := 29) fun d hd => (h d hd).2.1
    omega
  · unfold HB.sz
    have := szL_le (k := k) fun d hd => (h d hd).2.2
    exact Nat.le_trans this (Nat.le_trans (Nat.mul_le_mul_right _ hl) hk)
theorem Nice.tup_of {ds : List D} (h : Nice (.lst ds)) : Nice (.tup ds) := ⟨h.pl, h.dp, h.sz⟩
theorem w_reprN {μ : Store} {u : U} {d : D} {Q : U → Store → Prop} {E : Err → Store → Prop} (h1 : deepU μ u = some d) (hd : Nice d) (h : Q (.d (.str (shw d))) μ) : wE (reprU [u] μ) Q E :=
  w_reprD h1 hd.pl.ok (by have := hd.dp; omega) (by have := hd.sz; omega) h
/-! ### == as sameness of data -/
mutual
def nrm : D → D
  | .bl b => .int (if b then 1 else 0)
  | .tup ds => .tup (nrmL ds)
  | .lst ds => .lst (nrmL ds)
  | d => d
def nrmL : List D → List D
  | [] => []
  | d :: r => nrm d :: nrmL r
end
theorem nrmL_map (ds : List D) : nrmL ds = ds.map nrm := by
  induction ds with
  | nil => rfl
  | cons d r ih => simp [nrmL, ih]
theorem toPyL_cons {d : D} {r : List D} {ps : List PyData} (h : toPyL (d :: r) = some ps) : ∃ p q, ps = p :: q ∧ toPy d = some p ∧ toPyL r = some q := by
  unfold toPyL at h
  split at h
  · rename_i p q e1 e2
    cases h
    exact ⟨p, q, rfl, e1, e2⟩
  · cases h
theorem str_beq_eq (a b : Str) : (a == b) = true ↔ a = b := by simp
mutual
theorem eqv_nrm : ∀ {a b : D} {p q : PyData}, toPy a = some p → toPy b = some q → (PyData.eqv p q = true ↔ nrm a = nrm b)
  | .non, b, p, q, ha, hb => by
    cases ha
    cases b <;> simp [toPy] at hb <;> (first | (obtain ⟨z, _, rfl⟩ := hb) | subst hb) <;> simp [PyData.eqv, nrm]
  | .bl x, b, p, q, ha, hb => by
    cases ha
    cases b <;> simp [toPy] at hb <;> (first | (obtain ⟨z, _, rfl⟩ := hb) | subst hb) <;> (try cases x) <;> simp [PyData.eqv, nrm] <;> (try (rename_i y; cases y <;> simp))
  | .int i, b, p, q, ha, hb => by
    cases ha
    cases b <;> simp [toPy] at hb <;> (first | (obtain ⟨z, _, rfl⟩ := hb) | subst hb) <;> simp [PyData.eqv, nrm]
  | .str x, b, p, q, ha, hb => by
    cases ha
    cases b <;> simp [toPy] at hb <;> (first | (obtain ⟨z, _, rfl⟩ := hb) | subst hb) <;> simp [PyData.eqv, nrm]
  | .tup xs, b, p, q, ha, hb => by
    simp only [toPy, Option.map_eq_some_iff] at ha
    obtain ⟨ps, e1, rfl⟩ := ha
    cases b with
    | tup ys =>
      simp only [toPy, Option.map_eq_some_iff] at hb
      obtain ⟨qs, e2, rfl⟩ := hb
      simp only [PyData.eqv, nrm, D.tup.injEq]
      exact eqvL_nrm e1 e2
    | _ => simp [toPy] at hb <;> (first | (obtain ⟨z, _, rfl⟩ := hb) | subst hb) <;> simp [PyData.eqv, nrm]
  | .lst xs, b, p, q, ha, hb => by
    simp only [toPy, Option.map_eq_some_iff] at ha
    obtain ⟨ps, e1, rfl⟩ := ha
    cases b with
    | lst ys =>
      simp only [toPy, Option.map_eq_some_iff] at hb
      obtain ⟨qs, e2, rfl⟩ := hb
      simp only [PyData.eqv, nrm, D.lst.injEq]
      exact eqvL_nrm e1 e2
    | _ => simp [toPy] at hb <;> (first | (obtain ⟨z, _, rfl⟩ := hb) | subst hb) <;> simp [PyData.eqv, nrm]
  | .fl _, _, _, _, ha, _ => by cases ha
  | .ob _ _ _, _, _, _, ha, _ => by cases ha
theorem eqvL_nrm : ∀ {a b : List D} {p q : List PyData}, toPyL a = some p → toPyL b = some q → (PyData.eqvAll p q = true ↔ nrmL a = nrmL b)
  | [], [], _, _, ha, hb => by cases ha; cases hb; simp [PyData.eqvAll]
  | [], _ :: _, _, _, ha, hb => by
    cases ha
    obtain ⟨p, q, rfl, _, _⟩ := toPyL_cons hb
    simp [PyData.eqvAll, nrmL]
  | _ :: _, [], _, _, ha, hb => by
    cases hb
    obtain ⟨p, q, rfl, _, _⟩ := toPyL_cons ha
    simp [PyData.eqvAll, nrmL]
  | a :: r, b :: s, _, _, ha, hb => by
    obtain ⟨p, q, rfl, h1, h2⟩ := toPyL_cons ha
    obtain ⟨p', q', rfl, h3, h4⟩ := toPyL_cons hb
    simp only [PyData.eqvAll, Bool.and_eq_true, nrmL, List.cons.injEq]
    rw [eqv_nrm h1 h3, eqvL_nrm h2 h4]
end
open Classical in
/-- what a == b says -/
noncomputable def eqB (a b : D) : Bool := decide (nrm a = nrm b)
@[simp] theorem eqB_true {a b : D} : eqB a b = true ↔ nrm a = nrm b := by simp [eqB]
@[simp] theorem eqB_false {a b : D} : eqB a b = false ↔ ¬ nrm a = nrm b := by simp [eqB]
@[simp] theorem eqB_refl {a : D} : eqB a a = true := by simp
theorem eqSc_eqB {a b : D} (h : scD a b = true) : eqSc a b = eqB a b := by
  rw [Bool.eq_iff_iff, eqB_true]
  cases a <;> cases b <;> simp [scD] at h <;> simp [eqSc, nrm]
  rename_i x y
  cases x <;> cases y <;> simp
section
variable {μ : Store} {Q : U → Store → Prop} {E : Err → Store → Prop}
theorem Pl.py {d : D} (h : Pl d) (hd : dep d ≤ 64) : ∃ p, toPy d = some p ∧ SeqAt.shaped p = true := by
  obtain ⟨p, e, k⟩ := h.ok
  refine ⟨p, e, ?_⟩
  unfold SeqAt.shaped
  rw [k.cl, decide_eq_true (Nat.le_trans k.dp hd)]
  rfl
theorem w_eqG {n : Bool} {u w : U} {a b : D} (h1 : deepU μ u = some a) (h2 : deepU μ w = some b) (ha : Pl a) (hb : Pl b) (da : dep a ≤ 64) (db : dep b ≤ 64) (h : Q (.d (.bl (neg n (eqB a b)))) μ) : wE (orO (eqS n) (eqP n) u w μ) Q E := by
  obtain ⟨p, e1, s1⟩ := ha.py da
  obtain ⟨q, e2, s2⟩ := hb.py db
  have ev : PyData.eqv p q = eqB a b := by rw [Bool.eq_iff_iff, eqB_true, eqv_nrm e1 e2]
  have main : wE (eqP n u w μ) Q E := by
    unfold eqP
    simp only [h1, h2, e1, e2, ev]
    exact wE_guard (by simp [s1, s2]) (wE_ok h)
  by_cases hs : eqS n u w μ = .stuck
  · exact w_orR hs main
  · refine w_orL ?_
    cases u with
    | d x =>
      cases w with
      | d y =>
        cases h1
        cases h2
        unfold eqS at hs ⊢
        dsimp only at hs ⊢
        by_cases hc : scD a b = true
        · rw [hc, eqSc_eqB hc]
          exact wE_guard rfl (wE_ok h)
        · simp [hc, guard] at hs
      | own k => exact absurd rfl hs
      | exc _ _ _ => exact absurd rfl hs
    | own k => exact absurd rfl hs
    | exc _ _ _ => exact absurd rfl hs
theorem w_eqN {u w : U} {a b : D} (h1 : deepU μ u = some a) (h2 : deepU μ w = some b) (ha : Nice a) (hb : Nice b) (h : Q (.d (.bl (eqB a b))) μ) : wE (eqU u w μ) Q E := w_eqG h1 h2 ha.pl hb.pl (Nat.le_trans ha.dp (by decide)) (Nat.le_trans hb.dp (by decide)) h
theorem w_neN {u w : U} {a b : D} (h1 : deepU μ u = some a) (h2 : deepU μ w = some b) (ha : Nice a) (hb : Nice b) (h : Q (.d (.bl (!eqB a b))) μ) : wE (neU u w μ) Q E := w_eqG h1 h2 ha.pl hb.pl (Nat.le_trans ha.dp (by decide)) (Nat.le_trans hb.dp (by decide)) h
/-! ### in -/
open Classical in
noncomputable def inB (a : D) (ds : List D) : Bool := decide (∃ e ∈ ds, nrm e = nrm a)
@[simp] theorem inB_true {a : D} {ds : List D} : inB a ds = true ↔ ∃ e ∈ ds, nrm e = nrm a := by simp [inB]
@[simp] theorem inB_false {a : D} {ds : List D} : inB a ds = false ↔ ∀ e ∈ ds, ¬ nrm e = nrm a := by simp [inB]
theorem eqF_nrm {a b : D} (ha : flatD a = true) (hb : flatD b = true) : eqF a b = true ↔ nrm a = nrm b := by
  cases a <;> cases b <;> simp [flatD] at ha hb <;> simp [eqF, nrm]
  · rename_i x y
    cases x <;> cases y <;> simp
theorem inD_inB {a : D} {ds : List D} (ha : flatD a = true) (hd : ds.all flatD = true) : inD a ds = inB a ds := by
  rw [Bool.eq_iff_iff, inB_true]
  unfold inD
  rw [List.any_eq_true]
  rw [List.all_eq_true] at hd
  exact ⟨fun ⟨e, h1, h2⟩ => ⟨e, h1, (eqF_nrm (hd e h1) ha).mp h2⟩, fun ⟨e, h1, h2⟩ => ⟨e, h1, (eqF_nrm (hd e h1) ha).mpr h2⟩⟩
theorem anyP_inB {a : D} {p : PyData} (e : toPy a = some p) : ∀ {ds : List D} {qs : List PyData}, toPyL ds = some qs → anyP p qs = inB a ds
  | [], _, h => by cases h; rw [Bool.eq_iff_iff, inB_true]; simp [anyP]
  | d :: r, _, h => by
    obtain ⟨q, qs, rfl, h1, h2⟩ := toPyL_cons h
    have ih := anyP_inB e h2
    rw [Bool.eq_iff_iff, inB_true] at ih ⊢
    unfold anyP at ih ⊢
    rw [List.any_cons, Bool.or_eq_true, eqv_nrm h1 e, ih]
    simp
theorem w_inG {n : Bool} {u w : U} {a : D} {ds : List D} (h1 : deepU μ u = some a) (h2 : deepU μ w = some (.lst ds)) (ha : Nice a) (hb : Nice (.lst ds)) (h : Q (.d (.bl (neg n (inB a ds)))) μ) : wE (orO (orO (inS n) (inC n)) (inP n) u w μ) Q E := by
  obtain ⟨p, e1, s1⟩ := ha.pl.py (Nat.le_trans ha.dp (by decide))
  obtain ⟨q, e2, s2⟩ := hb.pl.py (Nat.le_trans hb.dp (by decide))
  have e2' := e2
  simp only [toPy, Option.map_eq_some_iff] at e2'
  obtain ⟨qs, e3, rfl⟩ := e2'
  have main : wE (inP n u w μ) Q E := by
    unfold inP
    simp only [h1, h2, e1, e2, anyP_inB e1 e3]
    exact wE_guard (by simp [s1, s2]) (wE_ok h)
  have nC : inC n u w μ = .stuck := by
    unfold inC
    split
    · cases h2
    · rfl
  by_cases hs : inS n u w μ = .stuck
  · refine w_orR ?_ main
    unfold orO
    rw [hs, nC]
  · refine w_orL (w_orL ?_)
    unfold inS at hs ⊢
    cases u with
    | d x =>
      cases h1
      dsimp only at hs ⊢
      have hw : ∃ us, sqU μ w = some us ∧ allD us = some ds := by
        cases w with
        | d y =>
          cases h2
          exact ⟨_, rfl, allD_map ds⟩
        | own k =>
          simp only [deepU] at h2
          split at h2
          · rename_i us e
            simp only [Option.map_eq_some_iff] at h2
            obtain ⟨es, e4, e5⟩ := h2
            cases e5
            exact ⟨us, sqU_own e, e4⟩
          · cases h2
        | exc _ _ _ => cases h2
      obtain ⟨us, k1, k2⟩ := hw
      simp only [k1, k2] at hs ⊢
      by_cases hc : (flatD a && ds.all flatD) = true
      · have hc' := Bool.and_eq_true_iff.mp hc
        rw [hc, inD_inB hc'.1 hc'.2]
        exact wE_guard rfl (wE_ok h)
      · simp [hc, guard] at hs
    | own k => exact absurd rfl hs
    | exc _ _ _ => exact absurd rfl hs
theorem w_inN {u w : U} {a : D} {ds : List D} (h1 : deepU μ u = some a) (h2 : deepU μ w = some (.lst ds)) (ha : Nice a) (hb : Nice (.lst ds)) (h : Q (.d (.bl (inB a ds))) μ) : wE (inX u w μ) Q E := w_inG h1 h2 ha hb h
theorem w_ninN {u w : U} {a : D} {ds : List D} (h1 : deepU μ u = some a) (h2 : deepU μ w = some (.lst ds)) (ha : Nice a) (hb : Nice (.lst ds)) (h : Q (.d (.bl (!inB a ds))) μ) : wE (ninX u w μ) Q E := w_inG h1 h2 ha hb h
theorem deepU_own {n : Nat} {ds : List D} (h : μ[n]? = some (.lst (ds.map U.d))) : deepU μ (.own n) = some (.lst ds) := by simp [deepU, h]
end
section
variable {μ : Store} {δ : DEnv} {k : Kn} {Q : U → Store → Prop} {E : Err → Store → Prop}
theorem w_forNil {g : U → DEnv → Option DEnv} {body : DEnv → Store → OutS} (h : k.nx δ μ) : wS (forL g body [] δ μ) k := by with_unfolding_all exact h
theorem w_forCons {g : U → DEnv → Option DEnv} {body : DEnv → Store → OutS} {u : U} {r : List U} {δ1 : DEnv} (e : g u δ = some δ1) (h : wS (body δ1 μ) { k with nx := fun δ μ => wS (forL g body r δ μ) k, ct := fun δ μ => wS (forL g body r δ μ) k, bk := k.nx }) : wS (forL g body (u :: r) δ μ) k := by
  unfold forL
  simp only [e]
  cases eb : body δ1 μ with
  | nx δ2 μ2 => rw [eb] at h; with_unfolding_all exact h
  | cnt δ2 μ2 => rw [eb] at h; with_unfolding_all exact h
  | brk δ2 μ2 => rw [eb] at h; with_unfolding_all exact h
  | ret w μ2 => rw [eb] at h; with_unfolding_all exact h
  | err x δ2 μ2 => rw [eb] at h; with_unfolding_all exact h
  | stuck => rw [eb] at h; with_unfolding_all exact h
theorem w_slT {ds : List D} {lo hi : Option Int} (hc : (!decide (HT.sIx ds.length 0 lo = 0 ∧ HT.sIx ds.length ds.length hi = ds.length)) = true) (h : Q (.d (.tup (cutL ds lo hi))) μ) : wE (slU (.d (.tup ds)) lo hi μ) Q E := by
  unfold slU
  with_unfolding_all exact wE_guard hc h
theorem w_slOwn {n : Nat} {ds : List D} {lo hi : Option Int} (e : μ[n]? = some (.lst (ds.map U.d))) (h : Q (.d (.lst (cutL ds lo hi))) μ) : wE (slU (.own n) lo hi μ) Q E := by
  unfold slU
  simp only [lsU_own e, cut_map, allD_map]
  with_unfolding_all exact h
theorem w_pop {n : Nat} {us : List U} {x : U} (e : μ[n]? = some (.lst (us ++ [x]))) (h : Q x (μ.set n (.lst us))) : wE (popU (.own n) μ) Q E := by
  unfold popU
  simp only [e, List.length_append, List.length_cons, List.length_nil, Nat.zero_add, Nat.add_sub_cancel, List.getElem?_append_right (Nat.le_refl _), Nat.sub_self, List.getElem?_cons_zero, List.dropLast_concat]
  with_unfolding_all exact h
theorem cut_butlast {β : Type} (xs : List β) : cutL xs none (some (-1)) = xs.dropLast := by
  unfold cutL
  rw [List.dropLast_eq_take]
  show (xs.drop 0).take ((if (-1 : Int) < 0 then ((-1 : Int) + xs.length).toNat else min (-1 : Int).toNat xs.length) - 0) = _
  rw [if_pos (by decide), List.drop_zero, Nat.sub_zero]
  congr 1
  omega
end
section
variable {μ : Store} {δ : DEnv} {k : Kn} {Q : U → Store → Prop} {E : Err → Store → Prop} {β : Type}
theorem w_sforO {g : U → DEnv → Option DEnv} {f : DEnv → Store → Out (Nat × List U)} {body : DEnv → Store → OutS} (h : wE (f δ μ) (fun p μ1 => wS (forO p.1 p.2 g body p.2 δ μ1) k) fun x μ1 => k.er x δ μ1) : wS (sForO g f body δ μ) k := by with_unfolding_all exact w_sbind h
theorem w_io {f : DEnv → Store → Out U} {Qp : Nat × List U → Store → Prop} (h : wE (f δ μ) (fun u μ1 => ∃ n us, u = .own n ∧ μ1[n]? = some (.lst us) ∧ Qp (n, us) μ1) E) : wE (iO f δ μ) Qp E := by
  refine wE_bind (h.mono (fun u μ1 h => ?_) fun _ _ h => h)
  obtain ⟨n, us, rfl, h1, h2⟩ := h
  simp only [h1]
  with_unfolding_all exact h2
theorem w_guardS {b : Bool} {r : OutS} (hb : b = true) (h : wS r k) : wS (guardS b r) k := by
  subst hb
  with_unfolding_all exact h
/-- the invariant says that the list stands still -/
theorem w_forO {n : Nat} {us0 : List U} {g : U → DEnv → Option DEnv} {body : DEnv → Store → OutS} (I : List U → DEnv → Store → Prop) {us : List U} (h0 : I us δ μ) (hst : ∀ r δ μ, I r δ μ → μ[n]? = some (.lst us0))
    (hs : ∀ u r δ μ, I (u :: r) δ μ → ∃ δ1, g u δ = some δ1 ∧ wS (body δ1 μ) { k with nx := I r, ct := I r, bk := k.nx }) (hn : ∀ δ μ, I [] δ μ → k.nx δ μ) : wS (forO n us0 g body us δ μ) k := by
  induction us generalizing δ μ with
  | nil =>
    unfold forO
    exact w_guardS (still_of (hst _ _ _ h0)) (by with_unfolding_all exact hn δ μ h0)
  | cons u r ih =>
    obtain ⟨δ1, e, h⟩ := hs u r δ μ h0
    unfold forO
    refine w_guardS (still_of (hst _ _ _ h0)) ?_
    simp only [e]
    cases eb : body δ1 μ with
    | nx δ2 μ2 =>
      rw [eb] at h
      with_unfolding_all exact ih h
    | cnt δ2 μ2 =>
      rw [eb] at h
      with_unfolding_all exact ih h
    | brk δ2 μ2 =>
      rw [eb] at h
      with_unfolding_all exact h
    | ret w μ2 =>
      rw [eb] at h
      with_unfolding_all exact h
    | err x δ2 μ2 =>
      rw [eb] at h
      with_unfolding_all exact h
    | stuck =>
      rw [eb] at h
      with_unfolding_all exact h
theorem w_slcO {g : U → DEnv → Option DEnv} {fi : DEnv → Store → Out (Nat × List U)} {tt : DEnv → Store → Out Bool} {te : DEnv → Store → Out U} {vs : List Nat} {fin : List U → Store → Out U} (h : wE (fi δ μ) (fun p μ1 => wE (lcO p.1 p.2 g tt te (wipeD δ vs) p.2 [] μ1) (fun ys μ2 => wE (fin ys μ2) Q E) E) E) : wE (eLcO g fi tt te vs fin δ μ) Q E :=
  wE_bind (h.mono (fun _ _ h => wE_bind h) fun _ _ h => h)
theorem w_lcO {n : Nat} {us0 : List U} {g : U → DEnv → Option DEnv} {tt : DEnv → Store → Out Bool} {te : DEnv → Store → Out U} {us acc : List U} {Ql : List U → Store → Prop} (I : List U → List U → Store → Prop) (h0 : I us acc μ) (hst : ∀ r acc μ, I r acc μ → μ[n]? = some (.lst us0))
    (hs : ∀ u r acc μ, I (u :: r) acc μ → ∃ δ1, g u δ = some δ1 ∧ wE (tt δ1 μ) (fun b μ1 => (b = true → wE (te δ1 μ1) (fun y μ2 => fits acc.length = true ∧ I r (acc ++ [y]) μ2) fun _ _ => False) ∧ (b = false → I r acc μ1)) fun _ _ => False)
    (hn : ∀ acc μ, I [] acc μ → Ql acc μ) : wE (lcO n us0 g tt te δ us acc μ) Ql E := by
  induction us generalizing acc μ with
  | nil =>
    unfold lcO
    exact wE_guard (still_of (hst _ _ _ h0)) (wE_ok (hn acc μ h0))
  | cons u r ih =>
    obtain ⟨δ1, e, h⟩ := hs u r acc μ h0
    unfold lcO
    refine wE_guard (still_of (hst _ _ _ h0)) ?_
    simp only [e]
    refine wE_bind (noErr_w (h.mono (fun b μ1 h => ?_) fun _ _ h => h))
    cases b with
    | false => exact ih (h.2 rfl)
    | true => exact wE_bind (noErr_w ((h.1 rfl).mono (fun y μ2 h => wE_guard h.1 (ih h.2)) fun _ _ h => h))
end
end HB
end
section
set_option Elab.async false
set_option linter.all false
set_option maxRecDepth 100000
set_option maxHeartbeats 4000000
namespace HB
open PySem PySem.Spec L2
open PyProof.Rows hiding St
open Evl (Ex ex_t ex_l ex_rd)
def top (i : Nat) : Stmt := PySem.Challenge.pw_heardby_k15_limits.main.body.getD i (.Pass ⟨0, 0, 0, 0⟩)
abbrev s__law_box : Stmt := top 47
abbrev s__law_take : Stmt := top 48
abbrev s__law_names : Stmt := top 49
abbrev s_is_name : Stmt := top 18
abbrev s_DuplicateU_initU : Stmt := inClass (top 6) 0
abbrev s_InvalidNameU_initU : Stmt := inClass (top 3) 0
abbrev s_OutOfRangeU_initU : Stmt := inClass (top 5) 0
abbrev s_check_names : Stmt := top 19
abbrev s_BookU_initU : Stmt := inClass (top 45) 9
abbrev s_BookUkeep : Stmt := inClass (top 45) 22
abbrev s_Book_facts : Stmt := inClass (top 45) 18
abbrev s_Book_meetings : Stmt := inClass (top 45) 16
abbrev s_Book_turns : Stmt := inClass (top 45) 17
abbrev s_Book_limits : Stmt := inClass (top 45) 19
abbrev s_Book_begin_limit : Stmt := inClass (top 45) 12
abbrev s_WrongKindU_initU : Stmt := inClass (top 11) 0
abbrev s_Book_change : Stmt := inClass (top 45) 27
abbrev s__law_change : Stmt := top 50
abbrev s_law : Stmt := top 51
def bs0 : List FB := [freeB "int", freeB "len", freeB "abs", freeB "range", freeB "str", gloB "_law_take", strB "LETTERS" "abcdefghijklmnopqrstuvwxyz", strB "DIGITS" "0123456789", intB "MOST_SIGNS" 8, gloB "RESERVED", tupsB "RESERVED" [.str "any", .str "end", .str "none", .str "not", .str "or"], oexB "Duplicate", oiniB "Duplicate", noatB "Duplicate" "item", gloB "Duplicate", gloB "is_name"]
def bs1 : List FB := [oexB "InvalidName", oiniB "InvalidName", noatB "InvalidName" "name", gloB "InvalidName", oexB "OutOfRange", oiniB "OutOfRange", noatB "OutOfRange" "value", gloB "OutOfRange", clsB "Book", noatB "Book" "_past", noatB "Book" "_limits", noatB "Book" "_facts", noatB "Book" "_turns", noatB "Book" "_meetings", freeB "list", noatB "Book" "_versions"]
def bs2 : List FB := [noatB "Book" "_people", noatB "Book" "last_day", creadB "Book", cintB "Book" "LAST_DAY" 30, gloB "Book", cintB "Book" "MOST_VERSIONS" 3, gloB "check_names", cintB "Book" "MOST_PEOPLE" 8, tupAB (He.dflAt ("Book", some "__init__") 0) [.str "news"], freeB "tuple", tupKB "KINDS", gloB "KINDS", tupsB "KINDS" [.str "begins", .str "held", .str "turns", .str "tellers"], methB "Book" "_keep", intB "MOST_LIMIT" 24, oexB "WrongKind"]
def bs3 : List FB := [oiniB "WrongKind", noatB "WrongKind" "word", gloB "WrongKind", methB "Book" "change", xfB' "OutOfRange", exmdB "OutOfRange" "OutOfRange", exmdB "WrongKind" "OutOfRange", xfB' "WrongKind", exmdB "OutOfRange" "WrongKind", exmdB "WrongKind" "WrongKind", methB "Book" "facts", methB "Book" "meetings", methB "Book" "turns", methB "Book" "limits", freeB "repr", propB "Book" "begin_limit"]
def bs4 : List FB := [gloB "_law_change", gloB "_law_names", mkrB "Book", gloB "_law_box", gloB "law"]
def fn0 : List He5.DefA := [
  ⟨fun K => (He.ga K "_law_box"), "_law_box", "_law_box", defArgs s__law_box, defBody s__law_box, defScope s__law_box, [], []⟩,
  ⟨fun K => (He.ga K "_law_take"), "_law_take", "_law_take", defArgs s__law_take, defBody s__law_take, defScope s__law_take, [], []⟩,
  ⟨fun K => (He.ga K "_law_names"), "_law_names", "_law_names", defArgs s__law_names, defBody s__law_names, defScope s__law_names, [], []⟩,
  ⟨fun K => (He.ga K "is_name"), "is_name", "is_name", defArgs s_is_name, defBody s_is_name, defScope s_is_name, [], []⟩,
  ⟨fun K => (He.ma K (He.ga K "Duplicate") "__init__"), "__init__", "Duplicate.__init__", defArgs s_DuplicateU_initU, defBody s_DuplicateU_initU, defScope s_DuplicateU_initU, [], []⟩,
  ⟨fun K => (He.ma K (He.ga K "InvalidName") "__init__"), "__init__", "InvalidName.__init__", defArgs s_InvalidNameU_initU, defBody s_InvalidNameU_initU, defScope s_InvalidNameU_initU, [], []⟩,
  ⟨fun K => (He.ma K (He.ga K "OutOfRange") "__init__"), "__init__", "OutOfRange.__init__", defArgs s_OutOfRangeU_initU, defBody s_OutOfRangeU_initU, defScope s_OutOfRangeU_initU, [], []⟩,
  ⟨fun K => (He.ga K "check_names"), "check_names", "check_names", defArgs s_check_names, defBody s_check_names, defScope s_check_names, [], []⟩]
def fn1 : List He5.DefA := [
  ⟨fun K => (He.ma K (He.ga K "Book") "__init__"), "__init__", "Book.__init__", defArgs s_BookU_initU, defBody s_BookU_initU, defScope s_BookU_initU, [.adr (He.dflAt ("Book", some "__init__") 0)], [("last", .int 10)]⟩,
  ⟨fun K => (He.ma K (He.ga K "Book") "_keep"), "_keep", "Book._keep", defArgs s_BookUkeep, defBody s_BookUkeep, defScope s_BookUkeep, [], []⟩,
  ⟨fun K => (He.ma K (He.ga K "Book") "facts"), "facts", "Book.facts", defArgs s_Book_facts, defBody s_Book_facts, defScope s_Book_facts, [], []⟩,
  ⟨fun K => (He.ma K (He.ga K "Book") "meetings"), "meetings", "Book.meetings", defArgs s_Book_meetings, defBody s_Book_meetings, defScope s_Book_meetings, [], []⟩,
  ⟨fun K => (He.ma K (He.ga K "Book") "turns"), "turns", "Book.turns", defArgs s_Book_turns, defBody s_Book_turns, defScope s_Book_turns, [], []⟩,
  ⟨fun K => (He.ma K (He.ga K "Book") "limits"), "limits", "Book.limits", defArgs s_Book_limits, defBody s_Book_limits, defScope s_Book_limits, [], []⟩,
  ⟨fun K => (gtr K (He.ga K "Book") "begin_limit"), "begin_limit", "Book.begin_limit", defArgs s_Book_begin_limit, defBody s_Book_begin_limit, defScope s_Book_begin_limit, [], []⟩,
  ⟨fun K => (He.ma K (He.ga K "WrongKind") "__init__"), "__init__", "WrongKind.__init__", defArgs s_WrongKindU_initU, defBody s_WrongKindU_initU, defScope s_WrongKindU_initU, [], []⟩]
def fn2 : List He5.DefA := [
  ⟨fun K => (He.ma K (He.ga K "Book") "change"), "change", "Book.change", defArgs s_Book_change, defBody s_Book_change, defScope s_Book_change, [], []⟩,
  ⟨fun K => (He.ga K "_law_change"), "_law_change", "_law_change", defArgs s__law_change, defBody s__law_change, defScope s__law_change, [], []⟩,
  ⟨fun K => (He.ga K "law"), "law", "law", defArgs s_law, defBody s_law, defScope s_law, [], []⟩]
def bsAll : List FB := bs0 ++ bs1 ++ bs2 ++ bs3 ++ bs4
def fnAll : List He5.DefA := fn0 ++ fn1 ++ fn2
end HB
end
section
set_option Elab.async false
set_option linter.all false
set_option maxRecDepth 100000
set_option maxHeartbeats 0
namespace HB
open PySem PySem.W PySem.Calls PyProof.Rows
abbrev R : OpenRow := OpenLaw.row PySem.Challenge.rw_heardby_k15_limits
abbrev qv : Program := view R.prog [51]
def names0 : List PySem.Str := ["_wall", "HeardbyError", "InvalidName", "UnknownName", "OutOfRange", "Duplicate", "TooMany", "NotUnsure", "InvalidText", "BadLine", "WrongKind", "LETTERS", "DIGITS", "RESERVED", "MOST_SIGNS", "MOST_DIGITS"]
def names1 : List PySem.Str := ["is_name", "check_names", "number_of", "FORMS", "claim_text", "Claim", "Clause", "joined", "read_word", "parse_claim", "parse_clause", "KINDS", "read_names", "read_last", "read_limit", "read_line"]
def names2 : List PySem.Str := ["limit_line", "check_known", "check_told", "check_claim", "check_claims", "MOST_LIMIT", "names_refused", "Book", "_law_box", "_law_take", "_law_names", "_law_change"]
def names : List PySem.Str := names0 ++ names1 ++ names2
abbrev hk : PySem.W.Hook := hookB 5 bsAll fnAll
def obH (s : PySem.W.SharedT) : He.AlD := obsBG 5 bsAll fnAll (HandSHeadRun.getT s)
theorem obH_eq (s : PySem.W.SharedT) : obH s = hk.obs s.abs := obsBG_eq (HandSHeadRun.getT_eq s)
theorem run_f (w : World) : HandSHeadRun.RunEq R qv hk obH 8000 names (w.withFollow "special-get-raises" false) := by
  intro os
  kernel_rfl
theorem run_t (w : World) : HandSHeadRun.RunEq R qv hk obH 8000 names (w.withFollow "special-get-raises" true) := by
  intro os
  kernel_rfl
theorem run (w : World) : HandSHeadRun.RunEq R qv hk obH 8000 names w := byRow2 "special-get-raises" (P := fun w => HandSHeadRun.RunEq R qv hk obH 8000 names w) run_f run_t w
end HB
end
section
set_option Elab.async false
set_option linter.all false
set_option maxRecDepth 100000
set_option maxHeartbeats 4000000
namespace HB
open PySem PySem.Spec L2
open PyProof.Rows hiding St
open Evl (Ex ex_t ex_l ex_rd)

abbrev N__law_box : List Str := ["_law_script", "_law_cell"]
abbrev P__law_box : List Str := ["_law_script"]
theorem sc__law_box : FnScope N__law_box P__law_box (defScope s__law_box) := ⟨rfl, rfl, rfl, by decide +kernel, rfl, by decide +kernel, by decide +kernel⟩
noncomputable def F__law_box : DEnv → Store → OutS :=
  sRet (eLstC (aCons (eC (.int 0)) (aCons (eC (.int 0)) (aCons (eC (.int 0)) (aCons (eLc (gN 1) (iU (eSl (eVar 0) (oNone) (oSome (eC (.int 63))))) (tYesD) (eCB intU (aCons (eVar 1) (aNil))) [1] finD) (aNil))))))
noncomputable def g__law_box : List U → Store → Out U := fnU N__law_box 1 F__law_box
abbrev N__law_take : List Str := ["_law_box_here", "_law_size", "_law_cell", "_law_digit"]
abbrev P__law_take : List Str := ["_law_box_here", "_law_size"]
theorem sc__law_take : FnScope N__law_take P__law_take (defScope s__law_take) := ⟨rfl, rfl, rfl, by decide +kernel, rfl, by decide +kernel, by decide +kernel⟩
noncomputable def F__law_take : DEnv → Store → OutS :=
  sSeq (sIf (tAndB (tVal (eBin eqU (eBin ixU (eVar 0) (eC (.int 0))) (eC (.int 0)))) (tVal (eBin ltI (eBin ixU (eVar 0) (eC (.int 1))) (eCB lenU (aCons (eBin ixU (eVar 0) (eC (.int 3))) (aNil))))))
    (sSeq (sSet 2 (eCB absU (aCons (eBin ixU (eBin ixU (eVar 0) (eC (.int 3))) (eBin ixU (eVar 0) (eC (.int 1)))) (aNil))))
    (sSeq (sSetIx (eVar 0) (eC (.int 1)) (eBin addU (eBin ixU (eVar 0) (eC (.int 1))) (eC (.int 1))))
    (sIf (tVal (eBin geI (eVar 2) (eBin powI (eC (.int 10)) (eC (.int 18)))))
    (sSetIx (eVar 0) (eC (.int 0)) (eVar 2))
    (sSetIx (eVar 0) (eC (.int 2)) (eBin modI (eCB intU (aCons (eBin addU (eBin addU (eBin mulU (eBin ixU (eVar 0) (eC (.int 2))) (eC (.int 8191))) (eVar 2)) (eC (.int 1))) (aNil))) (eC (.int 2147483647)))))))
    (sNext))
    (sSeq (sIf (tVal (eBin gtI (eBin ixU (eVar 0) (eC (.int 0))) (eC (.int 0))))
    (sSeq (sSet 3 (eBin modI (eCB intU (aCons (eBin ixU (eVar 0) (eC (.int 0))) (aNil))) (eVar 1)))
    (sSeq (sSetIx (eVar 0) (eC (.int 0)) (eBin fdivI (eBin ixU (eVar 0) (eC (.int 0))) (eVar 1)))
    (sRet (eVar 3))))
    (sNext))
    (sSeq (sSetIx (eVar 0) (eC (.int 2)) (eBin modI (eCB intU (aCons (eBin mulU (eBin ixU (eVar 0) (eC (.int 2))) (eC (.int 48271))) (aNil))) (eC (.int 2147483647))))
    (sRet (eBin modI (eCB intU (aCons (eBin fdivI (eBin modI (eCB intU (aCons (eBin mulU (eBin ixU (eVar 0) (eC (.int 2))) (eC (.int 69621))) (aNil))) (eC (.int 2147483629))) (eC (.int 16))) (aNil))) (eVar 1)))))
noncomputable def g__law_take : List U → Store → Out U := trunc (fnU N__law_take 2 F__law_take)
abbrev N__law_names : List Str := ["_law_box_here", "_law_count", "_law_shift", "_law_place", "_law_alike", "_law_names_here", "_law_k", "_law_letter", "_law_tail"]
abbrev P__law_names : List Str := ["_law_box_here", "_law_count"]
theorem sc__law_names : FnScope N__law_names P__law_names (defScope s__law_names) := ⟨rfl, rfl, rfl, by decide +kernel, rfl, by decide +kernel, by decide +kernel⟩
noncomputable def F__law_names : DEnv → Store → OutS :=
  sSeq (sSet 2 (eCB g__law_take (aCons (eVar 0) (aCons (eC (.int 10)) (aNil)))))
    (sSeq (sSet 3 (eCB g__law_take (aCons (eVar 0) (aCons (eC (.int 3)) (aNil)))))
    (sSeq (sSet 4 (eBin eqU (eCB g__law_take (aCons (eVar 0) (aCons (eC (.int 2)) (aNil)))) (eC (.int 1))))
    (sSeq (sSet 5 (eLstC (aNil)))
    (sSeq (sFor (gN 6) (iRng1 (aCons (eVar 1) (aNil)))
    (sSeq (sSet 7 (eBin ixU (eC (.str "abcdefghijklmnopqrstuvwxyz")) (eCB intU (aCons (eBin mulU (eCB g__law_take (aCons (eVar 0) (aCons (eC (.int 26)) (aNil)))) (eBin subI (eC (.int 1)) (eCB intU (aCons (eVar 4) (aNil))))) (aNil)))))
    (sSeq (sSet 8 (eBin ixU (eLst (aCons (eC (.str "")) (aCons (eC (.str "q")) (aCons (eC (.str "zz")) (aCons (eC (.str "andy")) (aNil)))))) (eCB intU (aCons (eBin mulU (eCB g__law_take (aCons (eVar 0) (aCons (eC (.int 4)) (aNil)))) (eBin subI (eC (.int 1)) (eCB intU (aCons (eVar 4) (aNil))))) (aNil)))))
    (sDrop (eMt appU (eVar 5) (aCons (eBin addU (eBin addU (eBin addU (eVar 7) (eBin mulU (eVar 7) (eVar 3))) (eCB strU (aCons (eBin modI (eCB intU (aCons (eBin addU (eBin mulU (eVar 6) (eC (.int 7))) (eVar 2)) (aNil))) (eC (.int 10))) (aNil)))) (eVar 8)) (aNil)))))))
    (sRet (eFrz (eVar 5)))))))
noncomputable def g__law_names : List U → Store → Out U := trunc (fnU N__law_names 2 F__law_names)
abbrev N_is_name : List Str := ["text", "sign"]
abbrev P_is_name : List Str := ["text"]
theorem sc_is_name : FnScope N_is_name P_is_name (defScope s_is_name) := ⟨rfl, rfl, rfl, by decide +kernel, rfl, by decide +kernel, by decide +kernel⟩
noncomputable def F_is_name : DEnv → Store → OutS :=
  sSeq (sIf (tOrB (tVal (eBin eqU (eVar 0) (eC (.str "")))) (tOrB (tVal (eBin gtI (eCB lenU (aCons (eVar 0) (aNil))) (eC (.int 8)))) (tVal (eBin inX (eVar 0) (eC (.tup [.str "any", .str "end", .str "none", .str "not", .str "or"]))))))
    (sRet (eC (.bl false)))
    (sNext))
    (sSeq (sIf (tVal (eBin ninX (eBin ixU (eVar 0) (eC (.int 0))) (eC (.str "abcdefghijklmnopqrstuvwxyz"))))
    (sRet (eC (.bl false)))
    (sNext))
    (sSeq (sFor (gN 1) (iU (eVar 0))
    (sIf (tAndB (tVal (eBin ninX (eVar 1) (eC (.str "abcdefghijklmnopqrstuvwxyz")))) (tVal (eBin ninX (eVar 1) (eC (.str "0123456789")))))
    (sRet (eC (.bl false)))
    (sNext)))
    (sRet (eC (.bl true)))))
noncomputable def g_is_name : List U → Store → Out U := trunc (fnU N_is_name 1 F_is_name)
abbrev N_check_names : List Str := ["names", "most", "seen", "name"]
abbrev P_check_names : List Str := ["names", "most"]
theorem sc_check_names : FnScope N_check_names P_check_names (defScope s_check_names) := ⟨rfl, rfl, rfl, by decide +kernel, rfl, by decide +kernel, by decide +kernel⟩
noncomputable def F_check_names : DEnv → Store → OutS :=
  sSeq (sIf (tNotB (tVal (eChain leI leI (eC (.int 1)) (eCB lenU (aCons (eVar 0) (aNil))) (eVar 1))))
    (sRaise "OutOfRange" "value" (eCB lenU (aCons (eVar 0) (aNil))))
    (sNext))
    (sSeq (sSet 2 (eLstC (aNil)))
    (sFor (gN 3) (iU (eVar 0))
    (sSeq (sIf (tNotB (tVal (eCB g_is_name (aCons (eVar 3) (aNil)))))
    (sRaise "InvalidName" "name" (eVar 3))
    (sNext))
    (sSeq (sIf (tVal (eBin inX (eVar 3) (eVar 2)))
    (sRaise "Duplicate" "item" (eVar 3))
    (sNext))
    (sDrop (eMt appU (eVar 2) (aCons (eVar 3) (aNil))))))))
noncomputable def g_check_names : List U → Store → Out U := trunc (fnU N_check_names 2 F_check_names)
abbrev N_BookU_initU : List Str := ["self", "people", "versions", "last"]
abbrev P_BookU_initU : List Str := ["self", "people", "versions", "last"]
theorem sc_BookU_initU : FnScope N_BookU_initU P_BookU_initU (defScope s_BookU_initU) := ⟨rfl, rfl, rfl, by decide +kernel, rfl, by decide +kernel, by decide +kernel⟩
noncomputable def F_BookU_initU : DEnv → Store → OutS :=
  sSeq (sDrop (eCB g_check_names (aCons (eVar 1) (aCons (eC (.int 8)) (aNil)))))
    (sSeq (sDrop (eCB g_check_names (aCons (eVar 2) (aCons (eC (.int 3)) (aNil)))))
    (sSeq (sIf (tNotB (tVal (eChain leI leI (eC (.int 1)) (eVar 3) (eC (.int 30)))))
    (sRaise "OutOfRange" "value" (eVar 3))
    (sNext))
    (sSeq (sFldU ["Book"] "last_day" (eVar 0) (eVar 3))
    (sSeq (sFldU ["Book"] "_people" (eVar 0) (eCB listU (aCons (eVar 1) (aNil))))
    (sSeq (sFldU ["Book"] "_versions" (eVar 0) (eCB listU (aCons (eVar 2) (aNil))))
    (sSeq (sFldU ["Book"] "_meetings" (eVar 0) (eLstC (aNil)))
    (sSeq (sFldU ["Book"] "_turns" (eVar 0) (eLstC (aNil)))
    (sSeq (sFldU ["Book"] "_facts" (eVar 0) (eLstC (aNil)))
    (sSeq (sFldU ["Book"] "_limits" (eVar 0) (eTup (aCons (eC (.int 1)) (aCons (eC .non) (aCons (eC .non) (aCons (eC .non) (aNil)))))))
    (sFldU ["Book"] "_past" (eVar 0) (eLstC (aNil))))))))))))
noncomputable def g_BookU_initU : List U → Store → Out U := fnU N_BookU_initU 4 F_BookU_initU
abbrev N_BookUkeep : List Str := ["self", "state"]
abbrev P_BookUkeep : List Str := ["self"]
theorem sc_BookUkeep : FnScope N_BookUkeep P_BookUkeep (defScope s_BookUkeep) := ⟨rfl, rfl, rfl, by decide +kernel, rfl, by decide +kernel, by decide +kernel⟩
noncomputable def F_BookUkeep : DEnv → Store → OutS :=
  sSeq (sSet 1 (eTup (aCons (eCB listU (aCons (eFld ["Book"] "_meetings" (eVar 0)) (aNil))) (aCons (eCB listU (aCons (eFld ["Book"] "_turns" (eVar 0)) (aNil))) (aCons (eCB listU (aCons (eFld ["Book"] "_facts" (eVar 0)) (aNil))) (aCons (eFld ["Book"] "_limits" (eVar 0)) (aNil)))))))
    (sDrop (eMt appU (eFld ["Book"] "_past" (eVar 0)) (aCons (eVar 1) (aNil))))
noncomputable def g_BookUkeep : List U → Store → Out U := trunc (fnU N_BookUkeep 1 F_BookUkeep)
abbrev N_Book_facts : List Str := ["self"]
abbrev P_Book_facts : List Str := ["self"]
theorem sc_Book_facts : FnScope N_Book_facts P_Book_facts (defScope s_Book_facts) := ⟨rfl, rfl, rfl, by decide +kernel, rfl, by decide +kernel, by decide +kernel⟩
noncomputable def F_Book_facts : DEnv → Store → OutS :=
  sRet (eCB listU (aCons (eFld ["Book"] "_facts" (eVar 0)) (aNil)))
noncomputable def g_Book_facts : List U → Store → Out U := trunc (fnU N_Book_facts 1 F_Book_facts)
abbrev N_Book_meetings : List Str := ["self"]
abbrev P_Book_meetings : List Str := ["self"]
theorem sc_Book_meetings : FnScope N_Book_meetings P_Book_meetings (defScope s_Book_meetings) := ⟨rfl, rfl, rfl, by decide +kernel, rfl, by decide +kernel, by decide +kernel⟩
noncomputable def F_Book_meetings : DEnv → Store → OutS :=
  sRet (eCB listU (aCons (eFld ["Book"] "_meetings" (eVar 0)) (aNil)))
noncomputable def g_Book_meetings : List U → Store → Out U := trunc (fnU N_Book_meetings 1 F_Book_meetings)
abbrev N_Book_turns : List Str := ["self"]
abbrev P_Book_turns : List Str := ["self"]
theorem sc_Book_turns : FnScope N_Book_turns P_Book_turns (defScope s_Book_turns) := ⟨rfl, rfl, rfl, by decide +kernel, rfl, by decide +kernel, by decide +kernel⟩
noncomputable def F_Book_turns : DEnv → Store → OutS :=
  sRet (eCB listU (aCons (eFld ["Book"] "_turns" (eVar 0)) (aNil)))
noncomputable def g_Book_turns : List U → Store → Out U := trunc (fnU N_Book_turns 1 F_Book_turns)
abbrev N_Book_limits : List Str := ["self"]
abbrev P_Book_limits : List Str := ["self"]
theorem sc_Book_limits : FnScope N_Book_limits P_Book_limits (defScope s_Book_limits) := ⟨rfl, rfl, rfl, by decide +kernel, rfl, by decide +kernel, by decide +kernel⟩
noncomputable def F_Book_limits : DEnv → Store → OutS :=
  sRet (eFld ["Book"] "_limits" (eVar 0))
noncomputable def g_Book_limits : List U → Store → Out U := trunc (fnU N_Book_limits 1 F_Book_limits)
abbrev N_Book_begin_limit : List Str := ["self"]
abbrev P_Book_begin_limit : List Str := ["self"]
theorem sc_Book_begin_limit : FnScope N_Book_begin_limit P_Book_begin_limit (defScope s_Book_begin_limit) := ⟨rfl, rfl, rfl, by decide +kernel, rfl, by decide +kernel, by decide +kernel⟩
noncomputable def F_Book_begin_limit : DEnv → Store → OutS :=
  sRet (eBin ixU (eFld ["Book"] "_limits" (eVar 0)) (eC (.int 0)))
noncomputable def g_Book_begin_limit : List U → Store → Out U := trunc (fnU N_Book_begin_limit 1 F_Book_begin_limit)
abbrev N_Book_change : List Str := ["self", "kind", "count", "limits"]
abbrev P_Book_change : List Str := ["self", "kind", "count"]
theorem sc_Book_change : FnScope N_Book_change P_Book_change (defScope s_Book_change) := ⟨rfl, rfl, rfl, by decide +kernel, rfl, by decide +kernel, by decide +kernel⟩
noncomputable def F_Book_change : DEnv → Store → OutS :=
  sSeq (sIf (tVal (eBin ninX (eVar 1) (eC (.tup [.str "begins", .str "held", .str "turns", .str "tellers"]))))
    (sRaise "WrongKind" "word" (eVar 1))
    (sNext))
    (sSeq (sIf (tAndB (tVal (eBin (isNO true) (eVar 2) (eC .non))) (tNotB (tVal (eChain leI leI (eC (.int 0)) (eVar 2) (eC (.int 24))))))
    (sRaise "OutOfRange" "value" (eVar 2))
    (sNext))
    (sSeq (sDrop (eMc "Book" "_keep" 0 0 (calF g_BookUkeep [.p 0] [] []) (eVar 0) aNil (aNil)))
    (sSeq (sSet 3 (eCB listC (aCons (eFld ["Book"] "_limits" (eVar 0)) (aNil))))
    (sSeq (sSetIx (eVar 3) (eGidx ["begins", "held", "turns", "tellers"] (aCons (eVar 1) (aNil))) (eVar 2))
    (sFldU ["Book"] "_limits" (eVar 0) (eCB tupleU (aCons (eVar 3) (aNil))))))))
noncomputable def g_Book_change : List U → Store → Out U := trunc (fnU N_Book_change 3 F_Book_change)
abbrev N__law_change : List Str := ["_law_book", "_law_kind", "_law_count", "e"]
abbrev P__law_change : List Str := ["_law_book", "_law_kind", "_law_count"]
theorem sc__law_change : FnScope N__law_change P__law_change (defScope s__law_change) := ⟨rfl, rfl, rfl, by decide +kernel, rfl, by decide +kernel, by decide +kernel⟩
noncomputable def F__law_change : DEnv → Store → OutS :=
  sTry ["WrongKind", "OutOfRange"]
    (sRet (eTup (aCons (eC (.str "done")) (aCons (eMc "Book" "change" 2 0 (calF g_Book_change [.p 0, .p 1, .p 2] [] []) (eVar 0) (aCons (eVar 1) (aCons (eVar 2) (aNil))) (aNil)) (aNil)))))
    (("WrongKind", 3, fun xa xd xx => sRet (eTup (aCons (eC (.str "kind")) (aCons (eXf xa xd xx "WrongKind" "word" 3) (aNil))))) :: ("OutOfRange", 3, fun xa xd xx => sRet (eTup (aCons (eC (.str "range")) (aCons (eXf xa xd xx "OutOfRange" "value" 3) (aNil))))) :: [])
noncomputable def g__law_change : List U → Store → Out U := trunc (fnU N__law_change 3 F__law_change)
abbrev N_law : List Str := ["_law_script", "_law_box_here", "_law_book", "_law_kinds", "_law_limits", "_law_k", "_law_kind", "_law_count", "_law_expected"]
abbrev P_law : List Str := ["_law_script"]
theorem sc_law : FnScope N_law P_law (defScope s_law) := ⟨rfl, rfl, rfl, by decide +kernel, rfl, by decide +kernel, by decide +kernel⟩
noncomputable def F_law : DEnv → Store → OutS :=
  sSeq (sSet 1 (eCB g__law_box (aCons (eVar 0) (aNil))))
    (sSeq (sSet 2 (eCal 1 0 (mkU "Book" (calF g_BookU_initU [.p 0, .p 1, .d 0, .m 0] [.tup [.str "news"]] [.int 10])) (aCons (eCB g__law_names (aCons (eVar 1) (aCons (eC (.int 2)) (aNil)))) (aNil)) (aNil)))
    (sSeq (sSet 3 (eLst (aCons (eC (.str "begins")) (aCons (eC (.str "held")) (aCons (eC (.str "turns")) (aCons (eC (.str "tellers")) (aCons (eC (.str "begin")) (aCons (eC (.str "")) (aCons (eC (.str "Held")) (aCons (eC (.str "none")) (aNil)))))))))))
    (sSeq (sSet 4 (eLstC (aCons (eC (.int 1)) (aCons (eC .non) (aCons (eC .non) (aCons (eC .non) (aNil)))))))
    (sSeq (sFor (gN 5) (iRng1 (aCons (eCB g__law_take (aCons (eVar 1) (aCons (eC (.int 11)) (aNil)))) (aNil)))
    (sSeq (sSet 6 (eBin ixU (eVar 3) (eCB g__law_take (aCons (eVar 1) (aCons (eC (.int 8)) (aNil))))))
    (sSeq (sSet 7 (eBin subI (eCB g__law_take (aCons (eVar 1) (aCons (eC (.int 32)) (aNil)))) (eC (.int 2))))
    (sSeq (sIf (tVal (eBin eqU (eVar 7) (eC (.int 27))))
    (sSet 7 (eC .non))
    (sIf (tVal (eBin gtI (eVar 7) (eC (.int 27))))
    (sSet 7 (eBin ixU (eLst (aCons (eBin powI (eC (.int 10)) (eC (.int 30))) (aCons (eNeg (eBin powI (eC (.int 10)) (eC (.int 30)))) (aNil)))) (eBin modI (eCB intU (aCons (eVar 7) (aNil))) (eC (.int 2)))))
    (sNext)))
    (sSeq (sSet 8 (eTup (aCons (eC (.str "done")) (aCons (eC .non) (aNil)))))
    (sSeq (sIf (tVal (eBin ninX (eVar 6) (eSl (eVar 3) (oNone) (oSome (eC (.int 4))))))
    (sSet 8 (eTup (aCons (eC (.str "kind")) (aCons (eVar 6) (aNil)))))
    (sIf (tAndB (tVal (eBin (isNO true) (eVar 7) (eC .non))) (tOrB (tVal (eBin ltI (eVar 7) (eC (.int 0)))) (tVal (eBin gtI (eVar 7) (eC (.int 24))))))
    (sSet 8 (eTup (aCons (eC (.str "range")) (aCons (eVar 7) (aNil)))))
    (sSetIx (eVar 4) (eMt idxU (eVar 3) (aCons (eVar 6) (aNil))) (eVar 7))))
    (sSeq (sIf (tVal (eBin neU (eCB reprU (aCons (eCB g__law_change (aCons (eVar 2) (aCons (eVar 6) (aCons (eVar 7) (aNil))))) (aNil))) (eCB reprU (aCons (eVar 8) (aNil)))))
    (sRet (eC (.bl false)))
    (sNext))
    (sIf (tOrB (tVal (eBin neU (eCB reprU (aCons (eMc "Book" "limits" 0 0 (calF g_Book_limits [.p 0] [] []) (eVar 2) aNil (aNil)) (aNil))) (eCB reprU (aCons (eCB tupleU (aCons (eVar 4) (aNil))) (aNil))))) (tVal (eBin neU (eCB reprU (aCons (ePr "Book" g_Book_begin_limit (eVar 2)) (aNil))) (eCB reprU (aCons (eBin ixU (eVar 4) (eC (.int 0))) (aNil))))))
    (sRet (eC (.bl false)))
    (sNext)))))))))
    (sRet (eAnd (eBin eqU (eMc "Book" "facts" 0 0 (calF g_Book_facts [.p 0] [] []) (eVar 2) aNil (aNil)) (eLst (aNil))) (eAnd (eBin eqU (eMc "Book" "meetings" 0 0 (calF g_Book_meetings [.p 0] [] []) (eVar 2) aNil (aNil)) (eLst (aNil))) (eBin eqU (eMc "Book" "turns" 0 0 (calF g_Book_turns [.p 0] [] []) (eVar 2) aNil (aNil)) (eLst (aNil))))))))))
noncomputable def g_law : List U → Store → Out U := trunc (fnU N_law 1 F_law)
abbrev P_DuplicateU_initU : List Str := ["self", "item"]
theorem sc_DuplicateU_initU : FnScope P_DuplicateU_initU P_DuplicateU_initU (defScope s_DuplicateU_initU) := ⟨rfl, rfl, rfl, by decide +kernel, rfl, by decide +kernel, by decide +kernel⟩
abbrev P_InvalidNameU_initU : List Str := ["self", "name"]
theorem sc_InvalidNameU_initU : FnScope P_InvalidNameU_initU P_InvalidNameU_initU (defScope s_InvalidNameU_initU) := ⟨rfl, rfl, rfl, by decide +kernel, rfl, by decide +kernel, by decide +kernel⟩
abbrev P_OutOfRangeU_initU : List Str := ["self", "value"]
theorem sc_OutOfRangeU_initU : FnScope P_OutOfRangeU_initU P_OutOfRangeU_initU (defScope s_OutOfRangeU_initU) := ⟨rfl, rfl, rfl, by decide +kernel, rfl, by decide +kernel, by decide +kernel⟩
abbrev P_WrongKindU_initU : List Str := ["self", "word"]
theorem sc_WrongKindU_initU : FnScope P_WrongKindU_initU P_WrongKindU_initU (defScope s_WrongKindU_initU) := ⟨rfl, rfl, rfl, by decide +kernel, rfl, by decide +kernel, by decide +kernel⟩
structure Txt (K : PySem.W.Frag) (mg : Str → Option Value) : Prop where
  n_int : mg "int" = none
  F__law_box : FunD K "_law_box" "_law_box" (defArgs s__law_box) (defBody s__law_box) (defScope s__law_box) [] [] (He.ga K "_law_box") (fdOf K (He.ga K "_law_box"))
  n_len : mg "len" = none
  n_abs : mg "abs" = none
  F__law_take : FunD K "_law_take" "_law_take" (defArgs s__law_take) (defBody s__law_take) (defScope s__law_take) [] [] (He.ga K "_law_take") (fdOf K (He.ga K "_law_take"))
  n_range : mg "range" = none
  n_str : mg "str" = none
  g__law_take : mg "_law_take" = some (.ref (He.ga K "_law_take"))
  F__law_names : FunD K "_law_names" "_law_names" (defArgs s__law_names) (defBody s__law_names) (defScope s__law_names) [] [] (He.ga K "_law_names") (fdOf K (He.ga K "_law_names"))
  c_LETTERS : ∃ t, mg "LETTERS" = some (.str "abcdefghijklmnopqrstuvwxyz" t)
  c_DIGITS : ∃ t, mg "DIGITS" = some (.str "0123456789" t)
  c_MOST_SIGNS : ∃ t, mg "MOST_SIGNS" = some (.int 8 t)
  g_RESERVED : mg "RESERVED" = some (.ref (He.ga K "RESERVED"))
  t_RESERVED : ∀ G, SqT K G (He.ga K "RESERVED") [.str "any", .str "end", .str "none", .str "not", .str "or"]
  F_is_name : FunD K "is_name" "is_name" (defArgs s_is_name) (defBody s_is_name) (defScope s_is_name) [] [] (He.ga K "is_name") (fdOf K (He.ga K "is_name"))
  F_DuplicateU_initU : FunD K "__init__" "Duplicate.__init__" (defArgs s_DuplicateU_initU) (defBody s_DuplicateU_initU) (defScope s_DuplicateU_initU) [] [] (He.ma K (He.ga K "Duplicate") "__init__") (fdOf K (He.ma K (He.ga K "Duplicate") "__init__"))
  ox_Duplicate : OexC K (He.ga K "Duplicate")
  oi_Duplicate : PySem.W.findIn K (.ref (He.ga K "Duplicate")) "__init__" = some (some (.ref (He.ma K (He.ga K "Duplicate") "__init__"))) ∧ PySem.W.typeIn K (.ref (He.ma K (He.ga K "Duplicate") "__init__")) = some (.type "function")
  na_Duplicate_item : NoAttr K (He.ga K "Duplicate") "item"
  g_Duplicate : mg "Duplicate" = some (.ref (He.ga K "Duplicate"))
  g_is_name : mg "is_name" = some (.ref (He.ga K "is_name"))
  F_InvalidNameU_initU : FunD K "__init__" "InvalidName.__init__" (defArgs s_InvalidNameU_initU) (defBody s_InvalidNameU_initU) (defScope s_InvalidNameU_initU) [] [] (He.ma K (He.ga K "InvalidName") "__init__") (fdOf K (He.ma K (He.ga K "InvalidName") "__init__"))
  ox_InvalidName : OexC K (He.ga K "InvalidName")
  oi_InvalidName : PySem.W.findIn K (.ref (He.ga K "InvalidName")) "__init__" = some (some (.ref (He.ma K (He.ga K "InvalidName") "__init__"))) ∧ PySem.W.typeIn K (.ref (He.ma K (He.ga K "InvalidName") "__init__")) = some (.type "function")
  na_InvalidName_name : NoAttr K (He.ga K "InvalidName") "name"
  g_InvalidName : mg "InvalidName" = some (.ref (He.ga K "InvalidName"))
  F_OutOfRangeU_initU : FunD K "__init__" "OutOfRange.__init__" (defArgs s_OutOfRangeU_initU) (defBody s_OutOfRangeU_initU) (defScope s_OutOfRangeU_initU) [] [] (He.ma K (He.ga K "OutOfRange") "__init__") (fdOf K (He.ma K (He.ga K "OutOfRange") "__init__"))
  ox_OutOfRange : OexC K (He.ga K "OutOfRange")
  oi_OutOfRange : PySem.W.findIn K (.ref (He.ga K "OutOfRange")) "__init__" = some (some (.ref (He.ma K (He.ga K "OutOfRange") "__init__"))) ∧ PySem.W.typeIn K (.ref (He.ma K (He.ga K "OutOfRange") "__init__")) = some (.type "function")
  na_OutOfRange_value : NoAttr K (He.ga K "OutOfRange") "value"
  g_OutOfRange : mg "OutOfRange" = some (.ref (He.ga K "OutOfRange"))
  F_check_names : FunD K "check_names" "check_names" (defArgs s_check_names) (defBody s_check_names) (defScope s_check_names) [] [] (He.ga K "check_names") (fdOf K (He.ga K "check_names"))
  cls_Book : Cls K (He.ga K "Book")
  na_Book__past : NoAttr K (He.ga K "Book") "_past"
  na_Book__limits : NoAttr K (He.ga K "Book") "_limits"
  na_Book__facts : NoAttr K (He.ga K "Book") "_facts"
  na_Book__turns : NoAttr K (He.ga K "Book") "_turns"
  na_Book__meetings : NoAttr K (He.ga K "Book") "_meetings"
  n_list : mg "list" = none
  na_Book__versions : NoAttr K (He.ga K "Book") "_versions"
  na_Book__people : NoAttr K (He.ga K "Book") "_people"
  na_Book_last_day : NoAttr K (He.ga K "Book") "last_day"
  cr_Book : ClX.CRead K (He.ga K "Book") (.type "type")
  cv_Book_LAST_DAY : ∃ t, ClX.CVal K (He.ga K "Book") (.type "type") "LAST_DAY" (.int 30) (.int 30 t)
  g_Book : mg "Book" = some (.ref (He.ga K "Book"))
  cv_Book_MOST_VERSIONS : ∃ t, ClX.CVal K (He.ga K "Book") (.type "type") "MOST_VERSIONS" (.int 3) (.int 3 t)
  g_check_names : mg "check_names" = some (.ref (He.ga K "check_names"))
  cv_Book_MOST_PEOPLE : ∃ t, ClX.CVal K (He.ga K "Book") (.type "type") "MOST_PEOPLE" (.int 8) (.int 8 t)
  d_BookU_initU_0 : ∀ G, SqT K G (He.dflAt ("Book", some "__init__") 0 K) [.str "news"]
  F_BookU_initU : FunD K "__init__" "Book.__init__" (defArgs s_BookU_initU) (defBody s_BookU_initU) (defScope s_BookU_initU) [.ref (He.dflAt ("Book", some "__init__") 0 K)] [("last", .int 10)] (He.ma K (He.ga K "Book") "__init__") (fdOf K (He.ma K (He.ga K "Book") "__init__"))
  F_BookUkeep : FunD K "_keep" "Book._keep" (defArgs s_BookUkeep) (defBody s_BookUkeep) (defScope s_BookUkeep) [] [] (He.ma K (He.ga K "Book") "_keep") (fdOf K (He.ma K (He.ga K "Book") "_keep"))
  F_Book_facts : FunD K "facts" "Book.facts" (defArgs s_Book_facts) (defBody s_Book_facts) (defScope s_Book_facts) [] [] (He.ma K (He.ga K "Book") "facts") (fdOf K (He.ma K (He.ga K "Book") "facts"))
  F_Book_meetings : FunD K "meetings" "Book.meetings" (defArgs s_Book_meetings) (defBody s_Book_meetings) (defScope s_Book_meetings) [] [] (He.ma K (He.ga K "Book") "meetings") (fdOf K (He.ma K (He.ga K "Book") "meetings"))
  F_Book_turns : FunD K "turns" "Book.turns" (defArgs s_Book_turns) (defBody s_Book_turns) (defScope s_Book_turns) [] [] (He.ma K (He.ga K "Book") "turns") (fdOf K (He.ma K (He.ga K "Book") "turns"))
  F_Book_limits : FunD K "limits" "Book.limits" (defArgs s_Book_limits) (defBody s_Book_limits) (defScope s_Book_limits) [] [] (He.ma K (He.ga K "Book") "limits") (fdOf K (He.ma K (He.ga K "Book") "limits"))
  F_Book_begin_limit : FunD K "begin_limit" "Book.begin_limit" (defArgs s_Book_begin_limit) (defBody s_Book_begin_limit) (defScope s_Book_begin_limit) [] [] (gtr K (He.ga K "Book") "begin_limit") (fdOf K (gtr K (He.ga K "Book") "begin_limit"))
  n_tuple : mg "tuple" = none
  tk_KINDS : tupK K "KINDS" = true
  g_KINDS : mg "KINDS" = some (.ref (He.ga K "KINDS"))
  t_KINDS : ∀ G, SqT K G (He.ga K "KINDS") [.str "begins", .str "held", .str "turns", .str "tellers"]
  m_Book__keep : Meth K (He.ga K "Book") "_keep" (He.ma K (He.ga K "Book") "_keep")
  c_MOST_LIMIT : ∃ t, mg "MOST_LIMIT" = some (.int 24 t)
  F_WrongKindU_initU : FunD K "__init__" "WrongKind.__init__" (defArgs s_WrongKindU_initU) (defBody s_WrongKindU_initU) (defScope s_WrongKindU_initU) [] [] (He.ma K (He.ga K "WrongKind") "__init__") (fdOf K (He.ma K (He.ga K "WrongKind") "__init__"))
  ox_WrongKind : OexC K (He.ga K "WrongKind")
  oi_WrongKind : PySem.W.findIn K (.ref (He.ga K "WrongKind")) "__init__" = some (some (.ref (He.ma K (He.ga K "WrongKind") "__init__"))) ∧ PySem.W.typeIn K (.ref (He.ma K (He.ga K "WrongKind") "__init__")) = some (.type "function")
  na_WrongKind_word : NoAttr K (He.ga K "WrongKind") "word"
  g_WrongKind : mg "WrongKind" = some (.ref (He.ga K "WrongKind"))
  F_Book_change : FunD K "change" "Book.change" (defArgs s_Book_change) (defBody s_Book_change) (defScope s_Book_change) [] [] (He.ma K (He.ga K "Book") "change") (fdOf K (He.ma K (He.ga K "Book") "change"))
  m_Book_change : Meth K (He.ga K "Book") "change" (He.ma K (He.ga K "Book") "change")
  xf_OutOfRange : XfC K (He.ga K "OutOfRange")
  xm_OutOfRange_OutOfRange : PySem.W.exmOne K (.ref (He.ga K "OutOfRange")) (.ref (He.ga K "OutOfRange")) = some (exmD "OutOfRange" "OutOfRange")
  xm_WrongKind_OutOfRange : PySem.W.exmOne K (.ref (He.ga K "WrongKind")) (.ref (He.ga K "OutOfRange")) = some (exmD "WrongKind" "OutOfRange")
  xf_WrongKind : XfC K (He.ga K "WrongKind")
  xm_OutOfRange_WrongKind : PySem.W.exmOne K (.ref (He.ga K "OutOfRange")) (.ref (He.ga K "WrongKind")) = some (exmD "OutOfRange" "WrongKind")
  xm_WrongKind_WrongKind : PySem.W.exmOne K (.ref (He.ga K "WrongKind")) (.ref (He.ga K "WrongKind")) = some (exmD "WrongKind" "WrongKind")
  F__law_change : FunD K "_law_change" "_law_change" (defArgs s__law_change) (defBody s__law_change) (defScope s__law_change) [] [] (He.ga K "_law_change") (fdOf K (He.ga K "_law_change"))
  m_Book_facts : Meth K (He.ga K "Book") "facts" (He.ma K (He.ga K "Book") "facts")
  m_Book_meetings : Meth K (He.ga K "Book") "meetings" (He.ma K (He.ga K "Book") "meetings")
  m_Book_turns : Meth K (He.ga K "Book") "turns" (He.ma K (He.ga K "Book") "turns")
  m_Book_limits : Meth K (He.ga K "Book") "limits" (He.ma K (He.ga K "Book") "limits")
  n_repr : mg "repr" = none
  pr_Book_begin_limit : PropOf K (He.ga K "Book") "begin_limit" (He.ma K (He.ga K "Book") "begin_limit") (gtr K (He.ga K "Book") "begin_limit")
  g__law_change : mg "_law_change" = some (.ref (He.ga K "_law_change"))
  g__law_names : mg "_law_names" = some (.ref (He.ga K "_law_names"))
  mk_Book : Mk K (He.ga K "Book") (He.ma K (He.ga K "Book") "__init__")
  g__law_box : mg "_law_box" = some (.ref (He.ga K "_law_box"))
  F_law : FunD K "law" "law" (defArgs s_law) (defBody s_law) (defScope s_law) [] [] (He.ga K "law") (fdOf K (He.ga K "law"))
  g_law : mg "law" = some (.ref (He.ga K "law"))
section
variable {P : Program} {w : World} {K : PySem.W.Frag} {mg : Str → Option Value} {base : Heap}
theorem bn__law_box (T : Txt K mg) : Binds K (fdOf K (He.ga K "_law_box")) P__law_box [] := T.F__law_box.bindsN fun _ _ _ _ _ _ us hl => match us, hl with | [_], _ => rfl
theorem ok__law_box (T : Txt K mg) : FnG P w K mg base 1 (He.ga K "_law_box") (fdOf K (He.ga K "_law_box")) P__law_box (SpU K g__law_box) :=
  fn_ok (N := N__law_box) (ps := P__law_box) (k := 0) T.F__law_box sc__law_box (fun cdv A outer s H E hgd hr => by
    have tk : Takes (cxOf (L2.CX P w) P w K mg base N__law_box "_law_box" (defScope s__law_box) (He.ga K "_law_box") cdv A outer s H E) (WF E) := takes_of rfl rfl rfl rfl
    have po : PassesOwn (model P w) (A.deeper (envOfC "_law_box" (defScope s__law_box) s.heap.objs.size (He.ga K "_law_box") cdv)) (envOfC "_law_box" (defScope s__law_box) s.heap.objs.size (He.ga K "_law_box") cdv) (cxOf (L2.CX P w) P w K mg base N__law_box "_law_box" (defScope s__law_box) (He.ga K "_law_box") cdv A outer s H E).xe := passes_of (X := (cxOf (L2.CX P w) P w K mg base N__law_box "_law_box" (defScope s__law_box) (He.ga K "_law_box") cdv A outer s H E)) rfl
    have hr70 : (A.deeper (envOfC "_law_box" (defScope s__law_box) s.heap.objs.size (He.ga K "_law_box") cdv)).units + 70 < cLine := by have := hr.un; omega
    exact dss_one (ds_ret (de_lstC (da_cons (de_int) (da_cons (de_int) (da_cons (de_int) (da_cons (de_lc (own := [("_law_cell", 1)]) finD_ok rfl sc__law_box.nd (di_u (de_sl (de_var 0) (do_none) (do_some (de_int)))) (blkOk_by (own := [("_law_cell", 1)]) (N := N__law_box) (sc := defScope s__law_box) (by decide +kernel)) (fun _ _ _ _ _ => dgv_name (by decide) sc__law_box.nd rfl (Or.inl rfl)) (fun _ _ _ _ _ => dts_nil) (fun _ _ _ _ _ => de_callTy cb_int rfl T.n_int (by decide +kernel) (da_cons (de_var 1) (da_nil)))) (da_nil))))))))
theorem bn__law_take (T : Txt K mg) : Binds K (fdOf K (He.ga K "_law_take")) P__law_take [] := T.F__law_take.bindsN fun _ _ _ _ _ _ us hl => match us, hl with | [_, _], _ => rfl
theorem ok__law_take (T : Txt K mg) : FnG P w K mg base 1 (He.ga K "_law_take") (fdOf K (He.ga K "_law_take")) P__law_take (SpU K g__law_take) :=
  fn_trunc (fn_ok (N := N__law_take) (ps := P__law_take) (k := 0) T.F__law_take sc__law_take (fun cdv A outer s H E hgd hr => by
    have tk : Takes (cxOf (L2.CX P w) P w K mg base N__law_take "_law_take" (defScope s__law_take) (He.ga K "_law_take") cdv A outer s H E) (WF E) := takes_of rfl rfl rfl rfl
    have po : PassesOwn (model P w) (A.deeper (envOfC "_law_take" (defScope s__law_take) s.heap.objs.size (He.ga K "_law_take") cdv)) (envOfC "_law_take" (defScope s__law_take) s.heap.objs.size (He.ga K "_law_take") cdv) (cxOf (L2.CX P w) P w K mg base N__law_take "_law_take" (defScope s__law_take) (He.ga K "_law_take") cdv A outer s H E).xe := passes_of (X := (cxOf (L2.CX P w) P w K mg base N__law_take "_law_take" (defScope s__law_take) (He.ga K "_law_take") cdv A outer s H E)) rfl
    have hr70 : (A.deeper (envOfC "_law_take" (defScope s__law_take) s.heap.objs.size (He.ga K "_law_take") cdv)).units + 70 < cLine := by have := hr.un; omega
    exact dss_cons (ds_if (dw_pt (dw_and (dt_cmp (ob_eq hr.units) (de_ix (de_var 0) (de_int) (fun _ _ => rfl)) (de_int) (nomark _)) (dw_and1 (dt_cmp ob_lt (de_ix (de_var 0) (de_int) (fun _ _ => rfl)) (de_callB cb_len rfl T.n_len (by decide +kernel) (da_cons (de_ix (de_var 0) (de_int) (fun _ _ => rfl)) (da_nil))) (nomark _)))))
          (dss_cons (ds_set (i := 2) sc__law_take.nd rfl (by first | exact Or.inl rfl | exact Or.inr rfl) (de_callB cb_abs rfl T.n_abs (by decide +kernel) (da_cons (de_ix (de_ix (de_var 0) (de_int) (fun _ _ => rfl)) (de_ix (de_var 0) (de_int) (fun _ _ => rfl)) (fun _ _ => rfl)) (da_nil))))
          (dss_cons (ds_setIx (de_bin ob_add (de_ix (de_var 0) (de_int) (fun _ _ => rfl)) (de_int)) (de_var 0) (de_int) (fun to ti h1 h2 => pg_sub h1 h2 set_list))
          (dss_one (ds_if (dt_cmp ob_ge (de_var 2) (de_bin ob_pow (de_int) (de_int)) (nomark _))
          (dss_one (ds_setIx (de_var 2) (de_var 0) (de_int) (fun to ti h1 h2 => pg_sub h1 h2 set_list)))
          (dss_one (ds_setIx (de_bin ob_mod (de_callTy cb_int rfl T.n_int (by decide +kernel) (da_cons (de_bin ob_add (de_bin ob_add (de_bin ob_mulU (de_ix (de_var 0) (de_int) (fun _ _ => rfl)) (de_int)) (de_var 2)) (de_int)) (da_nil))) (de_int)) (de_var 0) (de_int) (fun to ti h1 h2 => pg_sub h1 h2 set_list)))))))
          (dss_nil))
          (dss_cons (ds_if (dt_cmp ob_gt (de_ix (de_var 0) (de_int) (fun _ _ => rfl)) (de_int) (nomark _))
          (dss_cons (ds_set (i := 3) sc__law_take.nd rfl (by first | exact Or.inl rfl | exact Or.inr rfl) (de_bin ob_mod (de_callTy cb_int rfl T.n_int (by decide +kernel) (da_cons (de_ix (de_var 0) (de_int) (fun _ _ => rfl)) (da_nil))) (de_var 1)))
          (dss_cons (ds_setIx (de_bin ob_fdiv (de_ix (de_var 0) (de_int) (fun _ _ => rfl)) (de_var 1)) (de_var 0) (de_int) (fun to ti h1 h2 => pg_sub h1 h2 set_list))
          (dss_one (ds_ret (de_var 3)))))
          (dss_nil))
          (dss_cons (ds_setIx (de_bin ob_mod (de_callTy cb_int rfl T.n_int (by decide +kernel) (da_cons (de_bin ob_mulU (de_ix (de_var 0) (de_int) (fun _ _ => rfl)) (de_int)) (da_nil))) (de_int)) (de_var 0) (de_int) (fun to ti h1 h2 => pg_sub h1 h2 set_list))
          (dss_one (ds_ret (de_bin ob_mod (de_callTy cb_int rfl T.n_int (by decide +kernel) (da_cons (de_bin ob_fdiv (de_bin ob_mod (de_callTy cb_int rfl T.n_int (by decide +kernel) (da_cons (de_bin ob_mulU (de_ix (de_var 0) (de_int) (fun _ _ => rfl)) (de_int)) (da_nil))) (de_int)) (de_int)) (da_nil))) (de_var 1))))))))
theorem bn__law_names (T : Txt K mg) : Binds K (fdOf K (He.ga K "_law_names")) P__law_names [] := T.F__law_names.bindsN fun _ _ _ _ _ _ us hl => match us, hl with | [_, _], _ => rfl
theorem ok__law_names (T : Txt K mg) : FnG P w K mg base 2 (He.ga K "_law_names") (fdOf K (He.ga K "_law_names")) P__law_names (SpU K g__law_names) :=
  fn_trunc (fn_ok (N := N__law_names) (ps := P__law_names) (k := 1) T.F__law_names sc__law_names (fun cdv A outer s H E hgd hr => by
    have tk : Takes (cxOf (L2.CX P w) P w K mg base N__law_names "_law_names" (defScope s__law_names) (He.ga K "_law_names") cdv A outer s H E) (WF E) := takes_of rfl rfl rfl rfl
    have po : PassesOwn (model P w) (A.deeper (envOfC "_law_names" (defScope s__law_names) s.heap.objs.size (He.ga K "_law_names") cdv)) (envOfC "_law_names" (defScope s__law_names) s.heap.objs.size (He.ga K "_law_names") cdv) (cxOf (L2.CX P w) P w K mg base N__law_names "_law_names" (defScope s__law_names) (He.ga K "_law_names") cdv A outer s H E).xe := passes_of (X := (cxOf (L2.CX P w) P w K mg base N__law_names "_law_names" (defScope s__law_names) (He.ga K "_law_names") cdv A outer s H E)) rfl
    have hr70 : (A.deeper (envOfC "_law_names" (defScope s__law_names) s.heap.objs.size (He.ga K "_law_names") cdv)).units + 70 < cLine := by have := hr.un; omega
    exact dss_cons (ds_set (i := 2) sc__law_names.nd rfl (by first | exact Or.inl rfl | exact Or.inr rfl) (de_call (ok__law_take T) hgd (hr.mono (by decide)) rfl T.g__law_take T.F__law_take.kp (bn__law_take T) tk (da_cons (de_var 0) (da_cons (de_int) (da_nil)))))
          (dss_cons (ds_set (i := 3) sc__law_names.nd rfl (by first | exact Or.inl rfl | exact Or.inr rfl) (de_call (ok__law_take T) hgd (hr.mono (by decide)) rfl T.g__law_take T.F__law_take.kp (bn__law_take T) tk (da_cons (de_var 0) (da_cons (de_int) (da_nil)))))
          (dss_cons (ds_set (i := 4) sc__law_names.nd rfl (by first | exact Or.inl rfl | exact Or.inr rfl) (de_cmp (ob_eq hr.units) (de_call (ok__law_take T) hgd (hr.mono (by decide)) rfl T.g__law_take T.F__law_take.kp (bn__law_take T) tk (da_cons (de_var 0) (da_cons (de_int) (da_nil)))) (de_int) (nomark _)))
          (dss_cons (ds_set (i := 5) sc__law_names.nd rfl (by first | exact Or.inl rfl | exact Or.inr rfl) (de_lstC (da_nil)))
          (dss_cons (ds_for po rfl (di_range1 rfl T.n_range (da_cons (de_var 1) (da_nil))) (dg_name sc__law_names.nd rfl (by first | exact Or.inl rfl | exact Or.inr rfl))
          (dss_cons (ds_set (i := 7) sc__law_names.nd rfl (by first | exact Or.inl rfl | exact Or.inr rfl) (de_ix (de_str) (de_callTy cb_int rfl T.n_int (by decide +kernel) (da_cons (de_bin ob_mulU (de_call (ok__law_take T) hgd (hr.mono (by decide)) rfl T.g__law_take T.F__law_take.kp (bn__law_take T) tk (da_cons (de_var 0) (da_cons (de_int) (da_nil)))) (de_bin ob_sub (de_int) (de_callTy cb_int rfl T.n_int (by decide +kernel) (da_cons (de_var 4) (da_nil))))) (da_nil))) (fun _ _ => rfl)))
          (dss_cons (ds_set (i := 8) sc__law_names.nd rfl (by first | exact Or.inl rfl | exact Or.inr rfl) (de_ix (de_lst (da_cons (de_str) (da_cons (de_str) (da_cons (de_str) (da_cons (de_str) (da_nil)))))) (de_callTy cb_int rfl T.n_int (by decide +kernel) (da_cons (de_bin ob_mulU (de_call (ok__law_take T) hgd (hr.mono (by decide)) rfl T.g__law_take T.F__law_take.kp (bn__law_take T) tk (da_cons (de_var 0) (da_cons (de_int) (da_nil)))) (de_bin ob_sub (de_int) (de_callTy cb_int rfl T.n_int (by decide +kernel) (da_cons (de_var 4) (da_nil))))) (da_nil))) (fun _ _ => rfl)))
          (dss_one (ds_expr (de_bm PySem.F.slot_list_append PySem.F.type_list_append mb_append (de_var 5) (da_cons (de_bin ob_add (de_bin ob_add (de_bin ob_add (de_var 7) (de_bin ob_mulU (de_var 7) (de_var 3))) (de_callTy cb_str rfl T.n_str (by decide +kernel) (da_cons (de_bin ob_mod (de_callTy cb_int rfl T.n_int (by decide +kernel) (da_cons (de_bin ob_add (de_bin ob_mulU (de_var 6) (de_int)) (de_var 2)) (da_nil))) (de_int)) (da_nil)))) (de_var 8)) (da_nil))))))))
          (dss_one (ds_ret (de_frz (de_var 5))))))))))
theorem bn_is_name (T : Txt K mg) : Binds K (fdOf K (He.ga K "is_name")) P_is_name [] := T.F_is_name.bindsN fun _ _ _ _ _ _ us hl => match us, hl with | [_], _ => rfl
theorem ok_is_name (T : Txt K mg) : FnG P w K mg base 1 (He.ga K "is_name") (fdOf K (He.ga K "is_name")) P_is_name (SpU K g_is_name) :=
  fn_trunc (fn_ok (N := N_is_name) (ps := P_is_name) (k := 0) T.F_is_name sc_is_name (fun cdv A outer s H E hgd hr => by
    have tk : Takes (cxOf (L2.CX P w) P w K mg base N_is_name "is_name" (defScope s_is_name) (He.ga K "is_name") cdv A outer s H E) (WF E) := takes_of rfl rfl rfl rfl
    have po : PassesOwn (model P w) (A.deeper (envOfC "is_name" (defScope s_is_name) s.heap.objs.size (He.ga K "is_name") cdv)) (envOfC "is_name" (defScope s_is_name) s.heap.objs.size (He.ga K "is_name") cdv) (cxOf (L2.CX P w) P w K mg base N_is_name "is_name" (defScope s_is_name) (He.ga K "is_name") cdv A outer s H E).xe := passes_of (X := (cxOf (L2.CX P w) P w K mg base N_is_name "is_name" (defScope s_is_name) (He.ga K "is_name") cdv A outer s H E)) rfl
    have hr70 : (A.deeper (envOfC "is_name" (defScope s_is_name) s.heap.objs.size (He.ga K "is_name") cdv)).units + 70 < cLine := by have := hr.un; omega
    exact dss_cons (ds_if (dw_pt (dw_or (dt_cmp (ob_eq hr.units) (de_var 0) (de_str) (nomark _)) (dw_or (dt_cmp ob_gt (de_callB cb_len rfl T.n_len (by decide +kernel) (da_cons (de_var 0) (da_nil))) (de_gint rfl T.c_MOST_SIGNS) (nomark _)) (dw_or1 (dt_cmp (ob_inX hr70) (de_var 0) (de_gtup rfl T.g_RESERVED T.t_RESERVED (fun G => (RepL.cons Rep.str (RepL.cons Rep.str (RepL.cons Rep.str (RepL.cons Rep.str (RepL.cons Rep.str RepL.nil))))))) (by rfl))))))
          (dss_one (ds_ret (de_bl)))
          (dss_nil))
          (dss_cons (ds_if (dt_cmp (ob_ninX hr70) (de_ix (de_var 0) (de_int) (fun _ _ => rfl)) (de_gstr rfl T.c_LETTERS) (by rfl))
          (dss_one (ds_ret (de_bl)))
          (dss_nil))
          (dss_cons (ds_for po rfl (di_u (de_var 0)) (dg_name sc_is_name.nd rfl (by first | exact Or.inl rfl | exact Or.inr rfl))
          (dss_one (ds_if (dw_pt (dw_and (dt_cmp (ob_ninX hr70) (de_var 1) (de_gstr rfl T.c_LETTERS) (by rfl)) (dw_and1 (dt_cmp (ob_ninX hr70) (de_var 1) (de_gstr rfl T.c_DIGITS) (by rfl)))))
          (dss_one (ds_ret (de_bl)))
          (dss_nil))))
          (dss_one (ds_ret (de_bl)))))))
theorem xc_Duplicate (T : Txt K mg) : XCls P w K mg base "Duplicate" "item" (He.ma K (He.ga K "Duplicate") "__init__") (fdOf K (He.ma K (He.ga K "Duplicate") "__init__")) := ⟨T.ox_Duplicate, T.oi_Duplicate.1, T.oi_Duplicate.2, x_init T.F_DuplicateU_initU sc_DuplicateU_initU T.ox_Duplicate T.na_Duplicate_item (Or.inl rfl) (Or.inl rfl) (by decide) (by decide) (fun _ => rfl), T.F_DuplicateU_initU.bindsN fun _ _ _ _ _ _ us hl => match us, hl with | [_, _], _ => rfl, T.g_Duplicate⟩
theorem xc_InvalidName (T : Txt K mg) : XCls P w K mg base "InvalidName" "name" (He.ma K (He.ga K "InvalidName") "__init__") (fdOf K (He.ma K (He.ga K "InvalidName") "__init__")) := ⟨T.ox_InvalidName, T.oi_InvalidName.1, T.oi_InvalidName.2, x_init T.F_InvalidNameU_initU sc_InvalidNameU_initU T.ox_InvalidName T.na_InvalidName_name (Or.inl rfl) (Or.inl rfl) (by decide) (by decide) (fun _ => rfl), T.F_InvalidNameU_initU.bindsN fun _ _ _ _ _ _ us hl => match us, hl with | [_, _], _ => rfl, T.g_InvalidName⟩
theorem xc_OutOfRange (T : Txt K mg) : XCls P w K mg base "OutOfRange" "value" (He.ma K (He.ga K "OutOfRange") "__init__") (fdOf K (He.ma K (He.ga K "OutOfRange") "__init__")) := ⟨T.ox_OutOfRange, T.oi_OutOfRange.1, T.oi_OutOfRange.2, x_init T.F_OutOfRangeU_initU sc_OutOfRangeU_initU T.ox_OutOfRange T.na_OutOfRange_value (Or.inl rfl) (Or.inl rfl) (by decide) (by decide) (fun _ => rfl), T.F_OutOfRangeU_initU.bindsN fun _ _ _ _ _ _ us hl => match us, hl with | [_, _], _ => rfl, T.g_OutOfRange⟩
theorem bn_check_names (T : Txt K mg) : Binds K (fdOf K (He.ga K "check_names")) P_check_names [] := T.F_check_names.bindsN fun _ _ _ _ _ _ us hl => match us, hl with | [_, _], _ => rfl
theorem ok_check_names (T : Txt K mg) : FnG P w K mg base 3 (He.ga K "check_names") (fdOf K (He.ga K "check_names")) P_check_names (SpU K g_check_names) :=
  fn_trunc (fn_ok (N := N_check_names) (ps := P_check_names) (k := 2) T.F_check_names sc_check_names (fun cdv A outer s H E hgd hr => by
    have tk : Takes (cxOf (L2.CX P w) P w K mg base N_check_names "check_names" (defScope s_check_names) (He.ga K "check_names") cdv A outer s H E) (WF E) := takes_of rfl rfl rfl rfl
    have po : PassesOwn (model P w) (A.deeper (envOfC "check_names" (defScope s_check_names) s.heap.objs.size (He.ga K "check_names") cdv)) (envOfC "check_names" (defScope s_check_names) s.heap.objs.size (He.ga K "check_names") cdv) (cxOf (L2.CX P w) P w K mg base N_check_names "check_names" (defScope s_check_names) (He.ga K "check_names") cdv A outer s H E).xe := passes_of (X := (cxOf (L2.CX P w) P w K mg base N_check_names "check_names" (defScope s_check_names) (He.ga K "check_names") cdv A outer s H E)) rfl
    have hr70 : (A.deeper (envOfC "check_names" (defScope s_check_names) s.heap.objs.size (He.ga K "check_names") cdv)).units + 70 < cLine := by have := hr.un; omega
    exact dss_cons (ds_if (dt_not (dt_chain ob_le ob_le (de_int) (de_callB cb_len rfl T.n_len (by decide +kernel) (da_cons (de_var 0) (da_nil))) (de_var 1)))
          (dss_one (ds_raise (k := 0) (xc_OutOfRange T) rfl (hr.mono (by decide)) tk rfl (de_callB cb_len rfl T.n_len (by decide +kernel) (da_cons (de_var 0) (da_nil)))))
          (dss_nil))
          (dss_cons (ds_set (i := 2) sc_check_names.nd rfl (by first | exact Or.inl rfl | exact Or.inr rfl) (de_lstC (da_nil)))
          (dss_one (ds_for po rfl (di_u (de_var 0)) (dg_name sc_check_names.nd rfl (by first | exact Or.inl rfl | exact Or.inr rfl))
          (dss_cons (ds_if (dt_not (dt_val (de_call (ok_is_name T) hgd (hr.mono (by decide)) rfl T.g_is_name T.F_is_name.kp (bn_is_name T) tk (da_cons (de_var 3) (da_nil)))))
          (dss_one (ds_raise (k := 0) (xc_InvalidName T) rfl (hr.mono (by decide)) tk rfl (de_var 3)))
          (dss_nil))
          (dss_cons (ds_if (dt_cmp (ob_inX hr70) (de_var 3) (de_var 2) (by rfl))
          (dss_one (ds_raise (k := 0) (xc_Duplicate T) rfl (hr.mono (by decide)) tk rfl (de_var 3)))
          (dss_nil))
          (dss_one (ds_expr (de_bm PySem.F.slot_list_append PySem.F.type_list_append mb_append (de_var 2) (da_cons (de_var 3) (da_nil))))))))))))
theorem ok_BookU_initU (T : Txt K mg) : FnG P w K mg base 4 (He.ma K (He.ga K "Book") "__init__") (fdOf K (He.ma K (He.ga K "Book") "__init__")) P_BookU_initU (SpU K g_BookU_initU) :=
  fn_ok (N := N_BookU_initU) (ps := P_BookU_initU) (k := 3) T.F_BookU_initU sc_BookU_initU (fun cdv A outer s H E hgd hr => by
    have tk : Takes (cxOf (L2.CX P w) P w K mg base N_BookU_initU "Book.__init__" (defScope s_BookU_initU) (He.ma K (He.ga K "Book") "__init__") cdv A outer s H E) (WF E) := takes_of rfl rfl rfl rfl
    have po : PassesOwn (model P w) (A.deeper (envOfC "Book.__init__" (defScope s_BookU_initU) s.heap.objs.size (He.ma K (He.ga K "Book") "__init__") cdv)) (envOfC "Book.__init__" (defScope s_BookU_initU) s.heap.objs.size (He.ma K (He.ga K "Book") "__init__") cdv) (cxOf (L2.CX P w) P w K mg base N_BookU_initU "Book.__init__" (defScope s_BookU_initU) (He.ma K (He.ga K "Book") "__init__") cdv A outer s H E).xe := passes_of (X := (cxOf (L2.CX P w) P w K mg base N_BookU_initU "Book.__init__" (defScope s_BookU_initU) (He.ma K (He.ga K "Book") "__init__") cdv A outer s H E)) rfl
    have hr70 : (A.deeper (envOfC "Book.__init__" (defScope s_BookU_initU) s.heap.objs.size (He.ma K (He.ga K "Book") "__init__") cdv)).units + 70 < cLine := by have := hr.un; omega
    exact dss_cons (ds_expr (de_call (ok_check_names T) hgd (hr.mono (by decide)) rfl T.g_check_names T.F_check_names.kp (bn_check_names T) tk (da_cons (de_var 1) (da_cons (de_cval rfl T.g_Book T.cr_Book T.cv_Book_MOST_PEOPLE.choose_spec (fun _ => .int)) (da_nil)))))
          (dss_cons (ds_expr (de_call (ok_check_names T) hgd (hr.mono (by decide)) rfl T.g_check_names T.F_check_names.kp (bn_check_names T) tk (da_cons (de_var 2) (da_cons (de_cval rfl T.g_Book T.cr_Book T.cv_Book_MOST_VERSIONS.choose_spec (fun _ => .int)) (da_nil)))))
          (dss_cons (ds_if (dt_not (dt_chain ob_le ob_le (de_int) (de_var 3) (de_cval rfl T.g_Book T.cr_Book T.cv_Book_LAST_DAY.choose_spec (fun _ => .int))))
          (dss_one (ds_raise (k := 0) (xc_OutOfRange T) rfl (hr.mono (by decide)) tk rfl (de_var 3)))
          (dss_nil))
          (dss_cons (ds_fld (fld1 T.cls_Book T.na_Book_last_day) (de_var 0) (de_var 3))
          (dss_cons (ds_fld (fld1 T.cls_Book T.na_Book__people) (de_var 0) (de_callTy cb_list rfl T.n_list (by decide +kernel) (da_cons (de_var 1) (da_nil))))
          (dss_cons (ds_fld (fld1 T.cls_Book T.na_Book__versions) (de_var 0) (de_callTy cb_list rfl T.n_list (by decide +kernel) (da_cons (de_var 2) (da_nil))))
          (dss_cons (ds_fld (fld1 T.cls_Book T.na_Book__meetings) (de_var 0) (de_lstC (da_nil)))
          (dss_cons (ds_fld (fld1 T.cls_Book T.na_Book__turns) (de_var 0) (de_lstC (da_nil)))
          (dss_cons (ds_fld (fld1 T.cls_Book T.na_Book__facts) (de_var 0) (de_lstC (da_nil)))
          (dss_cons (ds_fld (fld1 T.cls_Book T.na_Book__limits) (de_var 0) (de_tup (da_cons (de_int) (da_cons (de_non) (da_cons (de_non) (da_cons (de_non) (da_nil)))))))
          (dss_one (ds_fld (fld1 T.cls_Book T.na_Book__past) (de_var 0) (de_lstC (da_nil))))))))))))))
theorem bn_BookUkeep (T : Txt K mg) : Binds K (fdOf K (He.ma K (He.ga K "Book") "_keep")) P_BookUkeep [] := T.F_BookUkeep.bindsN fun _ _ _ _ _ _ us hl => match us, hl with | [_], _ => rfl
theorem ok_BookUkeep (T : Txt K mg) : FnG P w K mg base 1 (He.ma K (He.ga K "Book") "_keep") (fdOf K (He.ma K (He.ga K "Book") "_keep")) P_BookUkeep (SpU K g_BookUkeep) :=
  fn_trunc (fn_ok (N := N_BookUkeep) (ps := P_BookUkeep) (k := 0) T.F_BookUkeep sc_BookUkeep (fun cdv A outer s H E hgd hr => by
    have tk : Takes (cxOf (L2.CX P w) P w K mg base N_BookUkeep "Book._keep" (defScope s_BookUkeep) (He.ma K (He.ga K "Book") "_keep") cdv A outer s H E) (WF E) := takes_of rfl rfl rfl rfl
    have po : PassesOwn (model P w) (A.deeper (envOfC "Book._keep" (defScope s_BookUkeep) s.heap.objs.size (He.ma K (He.ga K "Book") "_keep") cdv)) (envOfC "Book._keep" (defScope s_BookUkeep) s.heap.objs.size (He.ma K (He.ga K "Book") "_keep") cdv) (cxOf (L2.CX P w) P w K mg base N_BookUkeep "Book._keep" (defScope s_BookUkeep) (He.ma K (He.ga K "Book") "_keep") cdv A outer s H E).xe := passes_of (X := (cxOf (L2.CX P w) P w K mg base N_BookUkeep "Book._keep" (defScope s_BookUkeep) (He.ma K (He.ga K "Book") "_keep") cdv A outer s H E)) rfl
    have hr70 : (A.deeper (envOfC "Book._keep" (defScope s_BookUkeep) s.heap.objs.size (He.ma K (He.ga K "Book") "_keep") cdv)).units + 70 < cLine := by have := hr.un; omega
    exact dss_cons (ds_set (i := 1) sc_BookUkeep.nd rfl (by first | exact Or.inl rfl | exact Or.inr rfl) (de_tup (da_cons (de_callTy cb_list rfl T.n_list (by decide +kernel) (da_cons (de_fld (fld1 T.cls_Book T.na_Book__meetings) (de_var 0)) (da_nil))) (da_cons (de_callTy cb_list rfl T.n_list (by decide +kernel) (da_cons (de_fld (fld1 T.cls_Book T.na_Book__turns) (de_var 0)) (da_nil))) (da_cons (de_callTy cb_list rfl T.n_list (by decide +kernel) (da_cons (de_fld (fld1 T.cls_Book T.na_Book__facts) (de_var 0)) (da_nil))) (da_cons (de_fld (fld1 T.cls_Book T.na_Book__limits) (de_var 0)) (da_nil)))))))
          (dss_one (ds_expr (de_bm PySem.F.slot_list_append PySem.F.type_list_append mb_append (de_fld (fld1 T.cls_Book T.na_Book__past) (de_var 0)) (da_cons (de_var 1) (da_nil)))))))
theorem bn_Book_facts (T : Txt K mg) : Binds K (fdOf K (He.ma K (He.ga K "Book") "facts")) P_Book_facts [] := T.F_Book_facts.bindsN fun _ _ _ _ _ _ us hl => match us, hl with | [_], _ => rfl
theorem ok_Book_facts (T : Txt K mg) : FnG P w K mg base 1 (He.ma K (He.ga K "Book") "facts") (fdOf K (He.ma K (He.ga K "Book") "facts")) P_Book_facts (SpU K g_Book_facts) :=
  fn_trunc (fn_ok (N := N_Book_facts) (ps := P_Book_facts) (k := 0) T.F_Book_facts sc_Book_facts (fun cdv A outer s H E hgd hr => by
    have tk : Takes (cxOf (L2.CX P w) P w K mg base N_Book_facts "Book.facts" (defScope s_Book_facts) (He.ma K (He.ga K "Book") "facts") cdv A outer s H E) (WF E) := takes_of rfl rfl rfl rfl
    have po : PassesOwn (model P w) (A.deeper (envOfC "Book.facts" (defScope s_Book_facts) s.heap.objs.size (He.ma K (He.ga K "Book") "facts") cdv)) (envOfC "Book.facts" (defScope s_Book_facts) s.heap.objs.size (He.ma K (He.ga K "Book") "facts") cdv) (cxOf (L2.CX P w) P w K mg base N_Book_facts "Book.facts" (defScope s_Book_facts) (He.ma K (He.ga K "Book") "facts") cdv A outer s H E).xe := passes_of (X := (cxOf (L2.CX P w) P w K mg base N_Book_facts "Book.facts" (defScope s_Book_facts) (He.ma K (He.ga K "Book") "facts") cdv A outer s H E)) rfl
    have hr70 : (A.deeper (envOfC "Book.facts" (defScope s_Book_facts) s.heap.objs.size (He.ma K (He.ga K "Book") "facts") cdv)).units + 70 < cLine := by have := hr.un; omega
    exact dss_one (ds_ret (de_callTy cb_list rfl T.n_list (by decide +kernel) (da_cons (de_fld (fld1 T.cls_Book T.na_Book__facts) (de_var 0)) (da_nil))))))
theorem bn_Book_meetings (T : Txt K mg) : Binds K (fdOf K (He.ma K (He.ga K "Book") "meetings")) P_Book_meetings [] := T.F_Book_meetings.bindsN fun _ _ _ _ _ _ us hl => match us, hl with | [_], _ => rfl
theorem ok_Book_meetings (T : Txt K mg) : FnG P w K mg base 1 (He.ma K (He.ga K "Book") "meetings") (fdOf K (He.ma K (He.ga K "Book") "meetings")) P_Book_meetings (SpU K g_Book_meetings) :=
  fn_trunc (fn_ok (N := N_Book_meetings) (ps := P_Book_meetings) (k := 0) T.F_Book_meetings sc_Book_meetings (fun cdv A outer s H E hgd hr => by
    have tk : Takes (cxOf (L2.CX P w) P w K mg base N_Book_meetings "Book.meetings" (defScope s_Book_meetings) (He.ma K (He.ga K "Book") "meetings") cdv A outer s H E) (WF E) := takes_of rfl rfl rfl rfl
    have po : PassesOwn (model P w) (A.deeper (envOfC "Book.meetings" (defScope s_Book_meetings) s.heap.objs.size (He.ma K (He.ga K "Book") "meetings") cdv)) (envOfC "Book.meetings" (defScope s_Book_meetings) s.heap.objs.size (He.ma K (He.ga K "Book") "meetings") cdv) (cxOf (L2.CX P w) P w K mg base N_Book_meetings "Book.meetings" (defScope s_Book_meetings) (He.ma K (He.ga K "Book") "meetings") cdv A outer s H E).xe := passes_of (X := (cxOf (L2.CX P w) P w K mg base N_Book_meetings "Book.meetings" (defScope s_Book_meetings) (He.ma K (He.ga K "Book") "meetings") cdv A outer s H E)) rfl
    have hr70 : (A.deeper (envOfC "Book.meetings" (defScope s_Book_meetings) s.heap.objs.size (He.ma K (He.ga K "Book") "meetings") cdv)).units + 70 < cLine := by have := hr.un; omega
    exact dss_one (ds_ret (de_callTy cb_list rfl T.n_list (by decide +kernel) (da_cons (de_fld (fld1 T.cls_Book T.na_Book__meetings) (de_var 0)) (da_nil))))))
theorem bn_Book_turns (T : Txt K mg) : Binds K (fdOf K (He.ma K (He.ga K "Book") "turns")) P_Book_turns [] := T.F_Book_turns.bindsN fun _ _ _ _ _ _ us hl => match us, hl with | [_], _ => rfl
theorem ok_Book_turns (T : Txt K mg) : FnG P w K mg base 1 (He.ma K (He.ga K "Book") "turns") (fdOf K (He.ma K (He.ga K "Book") "turns")) P_Book_turns (SpU K g_Book_turns) :=
  fn_trunc (fn_ok (N := N_Book_turns) (ps := P_Book_turns) (k := 0) T.F_Book_turns sc_Book_turns (fun cdv A outer s H E hgd hr => by
    have tk : Takes (cxOf (L2.CX P w) P w K mg base N_Book_turns "Book.turns" (defScope s_Book_turns) (He.ma K (He.ga K "Book") "turns") cdv A outer s H E) (WF E) := takes_of rfl rfl rfl rfl
    have po : PassesOwn (model P w) (A.deeper (envOfC "Book.turns" (defScope s_Book_turns) s.heap.objs.size (He.ma K (He.ga K "Book") "turns") cdv)) (envOfC "Book.turns" (defScope s_Book_turns) s.heap.objs.size (He.ma K (He.ga K "Book") "turns") cdv) (cxOf (L2.CX P w) P w K mg base N_Book_turns "Book.turns" (defScope s_Book_turns) (He.ma K (He.ga K "Book") "turns") cdv A outer s H E).xe := passes_of (X := (cxOf (L2.CX P w) P w K mg base N_Book_turns "Book.turns" (defScope s_Book_turns) (He.ma K (He.ga K "Book") "turns") cdv A outer s H E)) rfl
    have hr70 : (A.deeper (envOfC "Book.turns" (defScope s_Book_turns) s.heap.objs.size (He.ma K (He.ga K "Book") "turns") cdv)).units + 70 < cLine := by have := hr.un; omega
    exact dss_one (ds_ret (de_callTy cb_list rfl T.n_list (by decide +kernel) (da_cons (de_fld (fld1 T.cls_Book T.na_Book__turns) (de_var 0)) (da_nil))))))
theorem bn_Book_limits (T : Txt K mg) : Binds K (fdOf K (He.ma K (He.ga K "Book") "limits")) P_Book_limits [] := T.F_Book_limits.bindsN fun _ _ _ _ _ _ us hl => match us, hl with | [_], _ => rfl
theorem ok_Book_limits (T : Txt K mg) : FnG P w K mg base 1 (He.ma K (He.ga K "Book") "limits") (fdOf K (He.ma K (He.ga K "Book") "limits")) P_Book_limits (SpU K g_Book_limits) :=
  fn_trunc (fn_ok (N := N_Book_limits) (ps := P_Book_limits) (k := 0) T.F_Book_limits sc_Book_limits (fun cdv A outer s H E hgd hr => by
    have tk : Takes (cxOf (L2.CX P w) P w K mg base N_Book_limits "Book.limits" (defScope s_Book_limits) (He.ma K (He.ga K "Book") "limits") cdv A outer s H E) (WF E) := takes_of rfl rfl rfl rfl
    have po : PassesOwn (model P w) (A.deeper (envOfC "Book.limits" (defScope s_Book_limits) s.heap.objs.size (He.ma K (He.ga K "Book") "limits") cdv)) (envOfC "Book.limits" (defScope s_Book_limits) s.heap.objs.size (He.ma K (He.ga K "Book") "limits") cdv) (cxOf (L2.CX P w) P w K mg base N_Book_limits "Book.limits" (defScope s_Book_limits) (He.ma K (He.ga K "Book") "limits") cdv A outer s H E).xe := passes_of (X := (cxOf (L2.CX P w) P w K mg base N_Book_limits "Book.limits" (defScope s_Book_limits) (He.ma K (He.ga K "Book") "limits") cdv A outer s H E)) rfl
    have hr70 : (A.deeper (envOfC "Book.limits" (defScope s_Book_limits) s.heap.objs.size (He.ma K (He.ga K "Book") "limits") cdv)).units + 70 < cLine := by have := hr.un; omega
    exact dss_one (ds_ret (de_fld (fld1 T.cls_Book T.na_Book__limits) (de_var 0)))))
theorem bn_Book_begin_limit (T : Txt K mg) : Binds K (fdOf K (gtr K (He.ga K "Book") "begin_limit")) P_Book_begin_limit [] := T.F_Book_begin_limit.bindsN fun _ _ _ _ _ _ us hl => match us, hl with | [_], _ => rfl
theorem ok_Book_begin_limit (T : Txt K mg) : FnG P w K mg base 1 (gtr K (He.ga K "Book") "begin_limit") (fdOf K (gtr K (He.ga K "Book") "begin_limit")) P_Book_begin_limit (SpU K g_Book_begin_limit) :=
  fn_trunc (fn_ok (N := N_Book_begin_limit) (ps := P_Book_begin_limit) (k := 0) T.F_Book_begin_limit sc_Book_begin_limit (fun cdv A outer s H E hgd hr => by
    have tk : Takes (cxOf (L2.CX P w) P w K mg base N_Book_begin_limit "Book.begin_limit" (defScope s_Book_begin_limit) (gtr K (He.ga K "Book") "begin_limit") cdv A outer s H E) (WF E) := takes_of rfl rfl rfl rfl
    have po : PassesOwn (model P w) (A.deeper (envOfC "Book.begin_limit" (defScope s_Book_begin_limit) s.heap.objs.size (gtr K (He.ga K "Book") "begin_limit") cdv)) (envOfC "Book.begin_limit" (defScope s_Book_begin_limit) s.heap.objs.size (gtr K (He.ga K "Book") "begin_limit") cdv) (cxOf (L2.CX P w) P w K mg base N_Book_begin_limit "Book.begin_limit" (defScope s_Book_begin_limit) (gtr K (He.ga K "Book") "begin_limit") cdv A outer s H E).xe := passes_of (X := (cxOf (L2.CX P w) P w K mg base N_Book_begin_limit "Book.begin_limit" (defScope s_Book_begin_limit) (gtr K (He.ga K "Book") "begin_limit") cdv A outer s H E)) rfl
    have hr70 : (A.deeper (envOfC "Book.begin_limit" (defScope s_Book_begin_limit) s.heap.objs.size (gtr K (He.ga K "Book") "begin_limit") cdv)).units + 70 < cLine := by have := hr.un; omega
    exact dss_one (ds_ret (de_ix (de_fld (fld1 T.cls_Book T.na_Book__limits) (de_var 0)) (de_int) (fun _ _ => rfl)))))
theorem kb_BookUkeep_1 (T : Txt K mg) : KBd K (fdOf K (He.ma K (He.ga K "Book") "_keep")) P_BookUkeep 1 [] [.p 0] [] [] := kb00 T.F_BookUkeep 1 [] [.p 0] (fun _ _ _ _ _ _ us ws h1 h2 => match us, h1, ws, h2 with | [_], _, [], _ => rfl)
theorem xc_WrongKind (T : Txt K mg) : XCls P w K mg base "WrongKind" "word" (He.ma K (He.ga K "WrongKind") "__init__") (fdOf K (He.ma K (He.ga K "WrongKind") "__init__")) := ⟨T.ox_WrongKind, T.oi_WrongKind.1, T.oi_WrongKind.2, x_init T.F_WrongKindU_initU sc_WrongKindU_initU T.ox_WrongKind T.na_WrongKind_word (Or.inl rfl) (Or.inl rfl) (by decide) (by decide) (fun _ => rfl), T.F_WrongKindU_initU.bindsN fun _ _ _ _ _ _ us hl => match us, hl with | [_, _], _ => rfl, T.g_WrongKind⟩
theorem bn_Book_change (T : Txt K mg) : Binds K (fdOf K (He.ma K (He.ga K "Book") "change")) P_Book_change [] := T.F_Book_change.bindsN fun _ _ _ _ _ _ us hl => match us, hl with | [_, _, _], _ => rfl
theorem ok_Book_change (T : Txt K mg) : FnG P w K mg base 3 (He.ma K (He.ga K "Book") "change") (fdOf K (He.ma K (He.ga K "Book") "change")) P_Book_change (SpU K g_Book_change) :=
  fn_trunc (fn_ok (N := N_Book_change) (ps := P_Book_change) (k := 2) T.F_Book_change sc_Book_change (fun cdv A outer s H E hgd hr => by
    have tk : Takes (cxOf (L2.CX P w) P w K mg base N_Book_change "Book.change" (defScope s_Book_change) (He.ma K (He.ga K "Book") "change") cdv A outer s H E) (WF E) := takes_of rfl rfl rfl rfl
    have po : PassesOwn (model P w) (A.deeper (envOfC "Book.change" (defScope s_Book_change) s.heap.objs.size (He.ma K (He.ga K "Book") "change") cdv)) (envOfC "Book.change" (defScope s_Book_change) s.heap.objs.size (He.ma K (He.ga K "Book") "change") cdv) (cxOf (L2.CX P w) P w K mg base N_Book_change "Book.change" (defScope s_Book_change) (He.ma K (He.ga K "Book") "change") cdv A outer s H E).xe := passes_of (X := (cxOf (L2.CX P w) P w K mg base N_Book_change "Book.change" (defScope s_Book_change) (He.ma K (He.ga K "Book") "change") cdv A outer s H E)) rfl
    have hr70 : (A.deeper (envOfC "Book.change" (defScope s_Book_change) s.heap.objs.size (He.ma K (He.ga K "Book") "change") cdv)).units + 70 < cLine := by have := hr.un; omega
    exact dss_cons (ds_if (dt_cmp (ob_ninX hr70) (de_var 1) (de_gtup rfl T.g_KINDS T.t_KINDS (fun G => (RepL.cons Rep.str (RepL.cons Rep.str (RepL.cons Rep.str (RepL.cons Rep.str RepL.nil)))))) (by rfl))
          (dss_one (ds_raise (k := 0) (xc_WrongKind T) rfl (hr.mono (by decide)) tk rfl (de_var 1)))
          (dss_nil))
          (dss_cons (ds_if (dw_pt (dw_and (dt_cmp ob_notN (de_var 2) (de_non) (nomark _)) (dw_and1 (dt_not (dt_chain ob_le ob_le (de_int) (de_var 2) (de_gint rfl T.c_MOST_LIMIT))))))
          (dss_one (ds_raise (k := 0) (xc_OutOfRange T) rfl (hr.mono (by decide)) tk rfl (de_var 2)))
          (dss_nil))
          (dss_cons (ds_expr (de_mcall0 (cal_fn (ok_BookUkeep T) hgd (hr.mono (by decide)) (kb_BookUkeep_1 T) (fun G => RepL.nil) (fun G => RepL.nil) tk) T.cls_Book T.m_Book__keep (de_var 0) (dk_nil)))
          (dss_cons (ds_set (i := 3) sc_Book_change.nd rfl (by first | exact Or.inl rfl | exact Or.inr rfl) (de_callTy cb_listC rfl T.n_list (by decide +kernel) (da_cons (de_fld (fld1 T.cls_Book T.na_Book__limits) (de_var 0)) (da_nil))))
          (dss_cons (ds_setIx (de_var 2) (de_var 3) (de_gidx rfl T.g_KINDS T.tk_KINDS T.t_KINDS (da_cons (de_var 1) (da_nil))) (fun to ti h1 h2 => pg_sub h1 h2 set_list))
          (dss_one (ds_fld (fld1 T.cls_Book T.na_Book__limits) (de_var 0) (de_callTy cb_tuple rfl T.n_tuple (by decide +kernel) (da_cons (de_var 3) (da_nil)))))))))))
theorem kb_Book_change_3 (T : Txt K mg) : KBd K (fdOf K (He.ma K (He.ga K "Book") "change")) P_Book_change 3 [] [.p 0, .p 1, .p 2] [] [] := kb00 T.F_Book_change 3 [] [.p 0, .p 1, .p 2] (fun _ _ _ _ _ _ us ws h1 h2 => match us, h1, ws, h2 with | [_, _, _], _, [], _ => rfl)
theorem bn__law_change (T : Txt K mg) : Binds K (fdOf K (He.ga K "_law_change")) P__law_change [] := T.F__law_change.bindsN fun _ _ _ _ _ _ us hl => match us, hl with | [_, _, _], _ => rfl
theorem ok__law_change (T : Txt K mg) : FnG P w K mg base 4 (He.ga K "_law_change") (fdOf K (He.ga K "_law_change")) P__law_change (SpU K g__law_change) :=
  fn_trunc (fn_ok (N := N__law_change) (ps := P__law_change) (k := 3) T.F__law_change sc__law_change (fun cdv A outer s H E hgd hr => by
    have tk : Takes (cxOf (L2.CX P w) P w K mg base N__law_change "_law_change" (defScope s__law_change) (He.ga K "_law_change") cdv A outer s H E) (WF E) := takes_of rfl rfl rfl rfl
    have po : PassesOwn (model P w) (A.deeper (envOfC "_law_change" (defScope s__law_change) s.heap.objs.size (He.ga K "_law_change") cdv)) (envOfC "_law_change" (defScope s__law_change) s.heap.objs.size (He.ga K "_law_change") cdv) (cxOf (L2.CX P w) P w K mg base N__law_change "_law_change" (defScope s__law_change) (He.ga K "_law_change") cdv A outer s H E).xe := passes_of (X := (cxOf (L2.CX P w) P w K mg base N__law_change "_law_change" (defScope s__law_change) (He.ga K "_law_change") cdv A outer s H E)) rfl
    have hr70 : (A.deeper (envOfC "_law_change" (defScope s__law_change) s.heap.objs.size (He.ga K "_law_change") cdv)).units + 70 < cLine := by have := hr.un; omega
    exact dss_one (ds_try (cs := ["WrongKind", "OutOfRange"]) rfl rfl sc__law_change.nd tk (fun W1 pn xe tk po => dss_one (ds_ret (de_tup (da_cons (de_str) (da_cons (de_mcall (cal_fn (ok_Book_change T) hgd (hr.mono (by decide)) (kb_Book_change_3 T) (fun G => RepL.nil) (fun G => RepL.nil) tk) T.cls_Book T.m_Book_change (de_var 0) (da_cons (de_var 1) (da_cons (de_var 2) (da_nil))) (dk_nil)) (da_nil))))))
          (.cons rfl T.g_WrongKind (all_cons T.xm_WrongKind_WrongKind (all_cons T.xm_OutOfRange_WrongKind all_nil)) (i := 3) rfl rfl (fun xa xd xx δ μ => ind_ret (by simp only [eTup, eLst, eBin, aCons, aNil, eC, eXf_ind, eVar_ind (show 0 ≠ 3 by decide) (.exc xa xd xx) (.exc 0 none xx), eVar_ind (show 1 ≠ 3 by decide) (.exc xa xd xx) (.exc 0 none xx), eVar_ind (show 2 ≠ 3 by decide) (.exc xa xd xx) (.exc 0 none xx)]))
            (fun xa oe cls xd pn xx xz xf xc => dss_one (ds_ret (de_tup (da_cons (de_str) (da_cons (de_xf (h := "WrongKind") T.xf_WrongKind T.na_WrongKind_word xz xf xc rfl (Or.inl rfl)) (da_nil))))))
            (.cons rfl T.g_OutOfRange (all_cons T.xm_WrongKind_OutOfRange (all_cons T.xm_OutOfRange_OutOfRange all_nil)) (i := 3) rfl rfl (fun xa xd xx δ μ => ind_ret (by simp only [eTup, eLst, eBin, aCons, aNil, eC, eXf_ind, eVar_ind (show 0 ≠ 3 by decide) (.exc xa xd xx) (.exc 0 none xx), eVar_ind (show 1 ≠ 3 by decide) (.exc xa xd xx) (.exc 0 none xx), eVar_ind (show 2 ≠ 3 by decide) (.exc xa xd xx) (.exc 0 none xx)]))
            (fun xa oe cls xd pn xx xz xf xc => dss_one (ds_ret (de_tup (da_cons (de_str) (da_cons (de_xf (h := "OutOfRange") T.xf_OutOfRange T.na_OutOfRange_value xz xf xc rfl (Or.inl rfl)) (da_nil))))))
            (.nil))))))
theorem kb_Book_facts_1 (T : Txt K mg) : KBd K (fdOf K (He.ma K (He.ga K "Book") "facts")) P_Book_facts 1 [] [.p 0] [] [] := kb00 T.F_Book_facts 1 [] [.p 0] (fun _ _ _ _ _ _ us ws h1 h2 => match us, h1, ws, h2 with | [_], _, [], _ => rfl)
theorem kb_Book_meetings_1 (T : Txt K mg) : KBd K (fdOf K (He.ma K (He.ga K "Book") "meetings")) P_Book_meetings 1 [] [.p 0] [] [] := kb00 T.F_Book_meetings 1 [] [.p 0] (fun _ _ _ _ _ _ us ws h1 h2 => match us, h1, ws, h2 with | [_], _, [], _ => rfl)
theorem kb_Book_turns_1 (T : Txt K mg) : KBd K (fdOf K (He.ma K (He.ga K "Book") "turns")) P_Book_turns 1 [] [.p 0] [] [] := kb00 T.F_Book_turns 1 [] [.p 0] (fun _ _ _ _ _ _ us ws h1 h2 => match us, h1, ws, h2 with | [_], _, [], _ => rfl)
theorem kb_Book_limits_1 (T : Txt K mg) : KBd K (fdOf K (He.ma K (He.ga K "Book") "limits")) P_Book_limits 1 [] [.p 0] [] [] := kb00 T.F_Book_limits 1 [] [.p 0] (fun _ _ _ _ _ _ us ws h1 h2 => match us, h1, ws, h2 with | [_], _, [], _ => rfl)
theorem kb_BookU_initU_2 (T : Txt K mg) : KBd K (fdOf K (He.ma K (He.ga K "Book") "__init__")) P_BookU_initU 2 [] [.p 0, .p 1, .d 0, .m 0] [.ref (He.dflAt ("Book", some "__init__") 0 K)] (([("last", .int 10)] : List (Str × V)).map (·.2)) := kb11 T.F_BookU_initU 2 [] [("last", .int 10)] [.p 0, .p 1, .d 0, .m 0] (by simp) (by simp) (by simp) (fun _ _ _ _ _ _ _ us its mv ws h1 h2 h3 h4 => match us, h1, its, h2, mv, h3, ws, h4 with | [_, _], _, [_], _, [_], _, [], _ => ⟨_, rfl, ⟨_, _, _, _, _, _, rfl, rfl, rfl⟩⟩)
theorem bn_law (T : Txt K mg) : Binds K (fdOf K (He.ga K "law")) P_law [] := T.F_law.bindsN fun _ _ _ _ _ _ us hl => match us, hl with | [_], _ => rfl
theorem ok_law (T : Txt K mg) : FnG P w K mg base 6 (He.ga K "law") (fdOf K (He.ga K "law")) P_law (SpU K g_law) :=
  fn_trunc (fn_ok (N := N_law) (ps := P_law) (k := 5) T.F_law sc_law (fun cdv A outer s H E hgd hr => by
    have tk : Takes (cxOf (L2.CX P w) P w K mg base N_law "law" (defScope s_law) (He.ga K "law") cdv A outer s H E) (WF E) := takes_of rfl rfl rfl rfl
    have po : PassesOwn (model P w) (A.deeper (envOfC "law" (defScope s_law) s.heap.objs.size (He.ga K "law") cdv)) (envOfC "law" (defScope s_law) s.heap.objs.size (He.ga K "law") cdv) (cxOf (L2.CX P w) P w K mg base N_law "law" (defScope s_law) (He.ga K "law") cdv A outer s H E).xe := passes_of (X := (cxOf (L2.CX P w) P w K mg base N_law "law" (defScope s_law) (He.ga K "law") cdv A outer s H E)) rfl
    have hr70 : (A.deeper (envOfC "law" (defScope s_law) s.heap.objs.size (He.ga K "law") cdv)).units + 70 < cLine := by have := hr.un; omega
    exact dss_cons (ds_set (i := 1) sc_law.nd rfl (by first | exact Or.inl rfl | exact Or.inr rfl) (de_call (ok__law_box T) hgd (hr.mono (by decide)) rfl T.g__law_box T.F__law_box.kp (bn__law_box T) tk (da_cons (de_var 0) (da_nil))))
          (dss_cons (ds_set (i := 2) sc_law.nd rfl (by first | exact Or.inl rfl | exact Or.inr rfl) (de_ncall (cal_make (n := 1) T.mk_Book (ok_BookU_initU T) hgd (hr.mono (by decide)) (kb_BookU_initU_2 T) (fun G => (RepL.cons (Rep.tup (T.d_BookU_initU_0 G) (RepL.cons Rep.str RepL.nil)) RepL.nil)) (fun G => (RepL.cons Rep.int RepL.nil)) tk) rfl T.g_Book T.mk_Book.kp (da_cons (de_call (ok__law_names T) hgd (hr.mono (by decide)) rfl T.g__law_names T.F__law_names.kp (bn__law_names T) tk (da_cons (de_var 1) (da_cons (de_int) (da_nil)))) (da_nil)) (dk_nil)))
          (dss_cons (ds_set (i := 3) sc_law.nd rfl (by first | exact Or.inl rfl | exact Or.inr rfl) (de_lst (da_cons (de_str) (da_cons (de_str) (da_cons (de_str) (da_cons (de_str) (da_cons (de_str) (da_cons (de_str) (da_cons (de_str) (da_cons (de_str) (da_nil)))))))))))
          (dss_cons (ds_set (i := 4) sc_law.nd rfl (by first | exact Or.inl rfl | exact Or.inr rfl) (de_lstC (da_cons (de_int) (da_cons (de_non) (da_cons (de_non) (da_cons (de_non) (da_nil)))))))
          (dss_cons (ds_for po rfl (di_range1 rfl T.n_range (da_cons (de_call (ok__law_take T) hgd (hr.mono (by decide)) rfl T.g__law_take T.F__law_take.kp (bn__law_take T) tk (da_cons (de_var 1) (da_cons (de_int) (da_nil)))) (da_nil))) (dg_name sc_law.nd rfl (by first | exact Or.inl rfl | exact Or.inr rfl))
          (dss_cons (ds_set (i := 6) sc_law.nd rfl (by first | exact Or.inl rfl | exact Or.inr rfl) (de_ix (de_var 3) (de_call (ok__law_take T) hgd (hr.mono (by decide)) rfl T.g__law_take T.F__law_take.kp (bn__law_take T) tk (da_cons (de_var 1) (da_cons (de_int) (da_nil)))) (fun _ _ => rfl)))
          (dss_cons (ds_set (i := 7) sc_law.nd rfl (by first | exact Or.inl rfl | exact Or.inr rfl) (de_bin ob_sub (de_call (ok__law_take T) hgd (hr.mono (by decide)) rfl T.g__law_take T.F__law_take.kp (bn__law_take T) tk (da_cons (de_var 1) (da_cons (de_int) (da_nil)))) (de_int)))
          (dss_cons (ds_if (dt_cmp (ob_eq hr.units) (de_var 7) (de_int) (nomark _))
          (dss_one (ds_set (i := 7) sc_law.nd rfl (by first | exact Or.inl rfl | exact Or.inr rfl) (de_non)))
          (dss_one (ds_if (dt_cmp ob_gt (de_var 7) (de_int) (nomark _))
          (dss_one (ds_set (i := 7) sc_law.nd rfl (by first | exact Or.inl rfl | exact Or.inr rfl) (de_ix (de_lst (da_cons (de_bin ob_pow (de_int) (de_int)) (da_cons (de_neg (de_bin ob_pow (de_int) (de_int))) (da_nil)))) (de_bin ob_mod (de_callTy cb_int rfl T.n_int (by decide +kernel) (da_cons (de_var 7) (da_nil))) (de_int)) (fun _ _ => rfl))))
          (dss_nil))))
          (dss_cons (ds_set (i := 8) sc_law.nd rfl (by first | exact Or.inl rfl | exact Or.inr rfl) (de_tup (da_cons (de_str) (da_cons (de_non) (da_nil)))))
          (dss_cons (ds_if (dt_cmp (ob_ninX hr70) (de_var 6) (de_sl (de_var 3) (do_none) (do_some (de_int))) (by rfl))
          (dss_one (ds_set (i := 8) sc_law.nd rfl (by first | exact Or.inl rfl | exact Or.inr rfl) (de_tup (da_cons (de_str) (da_cons (de_var 6) (da_nil))))))
          (dss_one (ds_if (dw_pt (dw_and (dt_cmp ob_notN (de_var 7) (de_non) (nomark _)) (dw_and1 (dw_pt (dw_or (dt_cmp ob_lt (de_var 7) (de_int) (nomark _)) (dw_or1 (dt_cmp ob_gt (de_var 7) (de_int) (nomark _))))))))
          (dss_one (ds_set (i := 8) sc_law.nd rfl (by first | exact Or.inl rfl | exact Or.inr rfl) (de_tup (da_cons (de_str) (da_cons (de_var 7) (da_nil))))))
          (dss_one (ds_setIx (de_var 7) (de_var 4) (de_bm PySem.F.slot_list_index PySem.F.type_list_index mb_index (de_var 3) (da_cons (de_var 6) (da_nil))) (fun to ti h1 h2 => pg_sub h1 h2 set_list))))))
          (dss_cons (ds_if (dt_cmp (ob_ne hr.units) (de_callB (cb_repr hgd hr70) rfl T.n_repr (by decide +kernel) (da_cons (de_call (ok__law_change T) hgd (hr.mono (by decide)) rfl T.g__law_change T.F__law_change.kp (bn__law_change T) tk (da_cons (de_var 2) (da_cons (de_var 6) (da_cons (de_var 7) (da_nil))))) (da_nil))) (de_callB (cb_repr hgd hr70) rfl T.n_repr (by decide +kernel) (da_cons (de_var 8) (da_nil))) (nomark _))
          (dss_one (ds_ret (de_bl)))
          (dss_nil))
          (dss_one (ds_if (dw_pt (dw_or (dt_cmp (ob_ne hr.units) (de_callB (cb_repr hgd hr70) rfl T.n_repr (by decide +kernel) (da_cons (de_mcall0 (cal_fn (ok_Book_limits T) hgd (hr.mono (by decide)) (kb_Book_limits_1 T) (fun G => RepL.nil) (fun G => RepL.nil) tk) T.cls_Book T.m_Book_limits (de_var 2) (dk_nil)) (da_nil))) (de_callB (cb_repr hgd hr70) rfl T.n_repr (by decide +kernel) (da_cons (de_callTy cb_tuple rfl T.n_tuple (by decide +kernel) (da_cons (de_var 4) (da_nil))) (da_nil))) (nomark _)) (dw_or1 (dt_cmp (ob_ne hr.units) (de_callB (cb_repr hgd hr70) rfl T.n_repr (by decide +kernel) (da_cons (de_prop T.cls_Book T.pr_Book_begin_limit (ok_Book_begin_limit T) hgd (hr.mono (by decide)) (bn_Book_begin_limit T) (de_var 2)) (da_nil))) (de_callB (cb_repr hgd hr70) rfl T.n_repr (by decide +kernel) (da_cons (de_ix (de_var 4) (de_int) (fun _ _ => rfl)) (da_nil))) (nomark _)))))
          (dss_one (ds_ret (de_bl)))
          (dss_nil))))))))))
          (dss_one (ds_ret (de_and (de_cmp (ob_eq hr.units) (de_mcall0 (cal_fn (ok_Book_facts T) hgd (hr.mono (by decide)) (kb_Book_facts_1 T) (fun G => RepL.nil) (fun G => RepL.nil) tk) T.cls_Book T.m_Book_facts (de_var 2) (dk_nil)) (de_lst (da_nil)) (nomark _)) (de_and (de_cmp (ob_eq hr.units) (de_mcall0 (cal_fn (ok_Book_meetings T) hgd (hr.mono (by decide)) (kb_Book_meetings_1 T) (fun G => RepL.nil) (fun G => RepL.nil) tk) T.cls_Book T.m_Book_meetings (de_var 2) (dk_nil)) (de_lst (da_nil)) (nomark _)) (de_one (de_cmp (ob_eq hr.units) (de_mcall0 (cal_fn (ok_Book_turns T) hgd (hr.mono (by decide)) (kb_Book_turns_1 T) (fun G => RepL.nil) (fun G => RepL.nil) tk) T.cls_Book T.m_Book_turns (de_var 2) (dk_nil)) (de_lst (da_nil)) (nomark _)))))))))))))
theorem bnA_law (T : Txt K mg) (s : Shared) (v : Value) : BindsTo s (fdOf K (He.ga K "law")) ⟨[v], []⟩ [("_law_script", v)] := FunD.bindsA (ps := P_law) T.F_law (fun _ _ _ _ _ _ us hl => match us, hl with | [_], _ => rfl) s [v] rfl
end
theorem txt_of {K : Fg} {h : Heap} {mg : Str → Option Value} (X : K.In h) (G : h.Ns mainGlobals mg) (c : SaysB bsAll fnAll K) : Txt K mg where
  n_int := He.free_ok X G (c.fact 0 (f := freeB "int") rfl)
  n_len := He.free_ok X G (c.fact 1 (f := freeB "len") rfl)
  n_abs := He.free_ok X G (c.fact 2 (f := freeB "abs") rfl)
  n_range := He.free_ok X G (c.fact 3 (f := freeB "range") rfl)
  n_str := He.free_ok X G (c.fact 4 (f := freeB "str") rfl)
  g__law_take := He.glo_ok X G (c.fact 5 (f := gloB "_law_take") rfl)
  c_LETTERS := He.str_ok X G (c.fact 6 (f := strB "LETTERS" "abcdefghijklmnopqrstuvwxyz") rfl)
  c_DIGITS := He.str_ok X G (c.fact 7 (f := strB "DIGITS" "0123456789") rfl)
  c_MOST_SIGNS := He.int_ok X G (c.fact 8 (f := intB "MOST_SIGNS" 8) rfl)
  g_RESERVED := He.glo_ok X G (c.fact 9 (f := gloB "RESERVED") rfl)
  t_RESERVED := He.tupB_ok (c.fact 10 (f := tupsB "RESERVED" [.str "any", .str "end", .str "none", .str "not", .str "or"]) rfl)
  ox_Duplicate := oexB_ok (c.fact 11 (f := oexB "Duplicate") rfl)
  oi_Duplicate := oiniB_ok (c.fact 12 (f := oiniB "Duplicate") rfl)
  na_Duplicate_item := He.noat_ok (c.fact 13 (f := noatB "Duplicate" "item") rfl)
  g_Duplicate := He.glo_ok X G (c.fact 14 (f := gloB "Duplicate") rfl)
  g_is_name := He.glo_ok X G (c.fact 15 (f := gloB "is_name") rfl)
  ox_InvalidName := oexB_ok (c.fact 16 (f := oexB "InvalidName") rfl)
  oi_InvalidName := oiniB_ok (c.fact 17 (f := oiniB "InvalidName") rfl)
  na_InvalidName_name := He.noat_ok (c.fact 18 (f := noatB "InvalidName" "name") rfl)
  g_InvalidName := He.glo_ok X G (c.fact 19 (f := gloB "InvalidName") rfl)
  ox_OutOfRange := oexB_ok (c.fact 20 (f := oexB "OutOfRange") rfl)
  oi_OutOfRange := oiniB_ok (c.fact 21 (f := oiniB "OutOfRange") rfl)
  na_OutOfRange_value := He.noat_ok (c.fact 22 (f := noatB "OutOfRange" "value") rfl)
  g_OutOfRange := He.glo_ok X G (c.fact 23 (f := gloB "OutOfRange") rfl)
  cls_Book := He.cls_ok (c.fact 24 (f := clsB "Book") rfl)
  na_Book__past := He.noat_ok (c.fact 25 (f := noatB "Book" "_past") rfl)
  na_Book__limits := He.noat_ok (c.fact 26 (f := noatB "Book" "_limits") rfl)
  na_Book__facts := He.noat_ok (c.fact 27 (f := noatB "Book" "_facts") rfl)
  na_Book__turns := He.noat_ok (c.fact 28 (f := noatB "Book" "_turns") rfl)
  na_Book__meetings := He.noat_ok (c.fact 29 (f := noatB "Book" "_meetings") rfl)
  n_list := He.free_ok X G (c.fact 30 (f := freeB "list") rfl)
  na_Book__versions := He.noat_ok (c.fact 31 (f := noatB "Book" "_versions") rfl)
  na_Book__people := He.noat_ok (c.fact 32 (f := noatB "Book" "_people") rfl)
  na_Book_last_day := He.noat_ok (c.fact 33 (f := noatB "Book" "last_day") rfl)
  cr_Book := creadB_ok (c.fact 34 (f := creadB "Book") rfl)
  cv_Book_LAST_DAY := cintB_ok (c.fact 35 (f := cintB "Book" "LAST_DAY" 30) rfl)
  g_Book := He.glo_ok X G (c.fact 36 (f := gloB "Book") rfl)
  cv_Book_MOST_VERSIONS := cintB_ok (c.fact 37 (f := cintB "Book" "MOST_VERSIONS" 3) rfl)
  g_check_names := He.glo_ok X G (c.fact 38 (f := gloB "check_names") rfl)
  cv_Book_MOST_PEOPLE := cintB_ok (c.fact 39 (f := cintB "Book" "MOST_PEOPLE" 8) rfl)
  d_BookU_initU_0 := tupAB_ok (c.fact 40 (f := tupAB (He.dflAt ("Book", some "__init__") 0) [.str "news"]) rfl)
  n_tuple := He.free_ok X G (c.fact 41 (f := freeB "tuple") rfl)
  tk_KINDS := (c.fact 42 (f := tupKB "KINDS") rfl)
  g_KINDS := He.glo_ok X G (c.fact 43 (f := gloB "KINDS") rfl)
  t_KINDS := He.tupB_ok (c.fact 44 (f := tupsB "KINDS" [.str "begins", .str "held", .str "turns", .str "tellers"]) rfl)
  m_Book__keep := He.meth_ok (c.fact 45 (f := methB "Book" "_keep") rfl)
  c_MOST_LIMIT := He.int_ok X G (c.fact 46 (f := intB "MOST_LIMIT" 24) rfl)
  ox_WrongKind := oexB_ok (c.fact 47 (f := oexB "WrongKind") rfl)
  oi_WrongKind := oiniB_ok (c.fact 48 (f := oiniB "WrongKind") rfl)
  na_WrongKind_word := He.noat_ok (c.fact 49 (f := noatB "WrongKind" "word") rfl)
  g_WrongKind := He.glo_ok X G (c.fact 50 (f := gloB "WrongKind") rfl)
  m_Book_change := He.meth_ok (c.fact 51 (f := methB "Book" "change") rfl)
  xf_OutOfRange := xfB_ok (c.fact 52 (f := xfB' "OutOfRange") rfl)
  xm_OutOfRange_OutOfRange := exmdB_ok (c.fact 53 (f := exmdB "OutOfRange" "OutOfRange") rfl)
  xm_WrongKind_OutOfRange := exmdB_ok (c.fact 54 (f := exmdB "WrongKind" "OutOfRange") rfl)
  xf_WrongKind := xfB_ok (c.fact 55 (f := xfB' "WrongKind") rfl)
  xm_OutOfRange_WrongKind := exmdB_ok (c.fact 56 (f := exmdB "OutOfRange" "WrongKind") rfl)
  xm_WrongKind_WrongKind := exmdB_ok (c.fact 57 (f := exmdB "WrongKind" "WrongKind") rfl)
  m_Book_facts := He.meth_ok (c.fact 58 (f := methB "Book" "facts") rfl)
  m_Book_meetings := He.meth_ok (c.fact 59 (f := methB "Book" "meetings") rfl)
  m_Book_turns := He.meth_ok (c.fact 60 (f := methB "Book" "turns") rfl)
  m_Book_limits := He.meth_ok (c.fact 61 (f := methB "Book" "limits") rfl)
  n_repr := He.free_ok X G (c.fact 62 (f := freeB "repr") rfl)
  pr_Book_begin_limit := propB_ok (c.fact 63 (f := propB "Book" "begin_limit") rfl)
  g__law_change := He.glo_ok X G (c.fact 64 (f := gloB "_law_change") rfl)
  g__law_names := He.glo_ok X G (c.fact 65 (f := gloB "_law_names") rfl)
  mk_Book := He.mkr_ok (c.fact 66 (f := mkrB "Book") rfl)
  g__law_box := He.glo_ok X G (c.fact 67 (f := gloB "_law_box") rfl)
  g_law := He.glo_ok X G (c.fact 68 (f := gloB "law") rfl)
  F__law_box := c.def_ 0 (d := ⟨fun K => (He.ga K "_law_box"), "_law_box", "_law_box", defArgs s__law_box, defBody s__law_box, defScope s__law_box, [], []⟩) rfl
  F__law_take := c.def_ 1 (d := ⟨fun K => (He.ga K "_law_take"), "_law_take", "_law_take", defArgs s__law_take, defBody s__law_take, defScope s__law_take, [], []⟩) rfl
  F__law_names := c.def_ 2 (d := ⟨fun K => (He.ga K "_law_names"), "_law_names", "_law_names", defArgs s__law_names, defBody s__law_names, defScope s__law_names, [], []⟩) rfl
  F_is_name := c.def_ 3 (d := ⟨fun K => (He.ga K "is_name"), "is_name", "is_name", defArgs s_is_name, defBody s_is_name, defScope s_is_name, [], []⟩) rfl
  F_DuplicateU_initU := c.def_ 4 (d := ⟨fun K => (He.ma K (He.ga K "Duplicate") "__init__"), "__init__", "Duplicate.__init__", defArgs s_DuplicateU_initU, defBody s_DuplicateU_initU, defScope s_DuplicateU_initU, [], []⟩) rfl
  F_InvalidNameU_initU := c.def_ 5 (d := ⟨fun K => (He.ma K (He.ga K "InvalidName") "__init__"), "__init__", "InvalidName.__init__", defArgs s_InvalidNameU_initU, defBody s_InvalidNameU_initU, defScope s_InvalidNameU_initU, [], []⟩) rfl
  F_OutOfRangeU_initU := c.def_ 6 (d := ⟨fun K => (He.ma K (He.ga K "OutOfRange") "__init__"), "__init__", "OutOfRange.__init__", defArgs s_OutOfRangeU_initU, defBody s_OutOfRangeU_initU, defScope s_OutOfRangeU_initU, [], []⟩) rfl
  F_check_names := c.def_ 7 (d := ⟨fun K => (He.ga K "check_names"), "check_names", "check_names", defArgs s_check_names, defBody s_check_names, defScope s_check_names, [], []⟩) rfl
  F_BookU_initU := c.def_ 8 (d := ⟨fun K => (He.ma K (He.ga K "Book") "__init__"), "__init__", "Book.__init__", defArgs s_BookU_initU, defBody s_BookU_initU, defScope s_BookU_initU, [.adr (He.dflAt ("Book", some "__init__") 0)], [("last", .int 10)]⟩) rfl
  F_BookUkeep := c.def_ 9 (d := ⟨fun K => (He.ma K (He.ga K "Book") "_keep"), "_keep", "Book._keep", defArgs s_BookUkeep, defBody s_BookUkeep, defScope s_BookUkeep, [], []⟩) rfl
  F_Book_facts := c.def_ 10 (d := ⟨fun K => (He.ma K (He.ga K "Book") "facts"), "facts", "Book.facts", defArgs s_Book_facts, defBody s_Book_facts, defScope s_Book_facts, [], []⟩) rfl
  F_Book_meetings := c.def_ 11 (d := ⟨fun K => (He.ma K (He.ga K "Book") "meetings"), "meetings", "Book.meetings", defArgs s_Book_meetings, defBody s_Book_meetings, defScope s_Book_meetings, [], []⟩) rfl
  F_Book_turns := c.def_ 12 (d := ⟨fun K => (He.ma K (He.ga K "Book") "turns"), "turns", "Book.turns", defArgs s_Book_turns, defBody s_Book_turns, defScope s_Book_turns, [], []⟩) rfl
  F_Book_limits := c.def_ 13 (d := ⟨fun K => (He.ma K (He.ga K "Book") "limits"), "limits", "Book.limits", defArgs s_Book_limits, defBody s_Book_limits, defScope s_Book_limits, [], []⟩) rfl
  F_Book_begin_limit := c.def_ 14 (d := ⟨fun K => (gtr K (He.ga K "Book") "begin_limit"), "begin_limit", "Book.begin_limit", defArgs s_Book_begin_limit, defBody s_Book_begin_limit, defScope s_Book_begin_limit, [], []⟩) rfl
  F_WrongKindU_initU := c.def_ 15 (d := ⟨fun K => (He.ma K (He.ga K "WrongKind") "__init__"), "__init__", "WrongKind.__init__", defArgs s_WrongKindU_initU, defBody s_WrongKindU_initU, defScope s_WrongKindU_initU, [], []⟩) rfl
  F_Book_change := c.def_ 16 (d := ⟨fun K => (He.ma K (He.ga K "Book") "change"), "change", "Book.change", defArgs s_Book_change, defBody s_Book_change, defScope s_Book_change, [], []⟩) rfl
  F__law_change := c.def_ 17 (d := ⟨fun K => (He.ga K "_law_change"), "_law_change", "_law_change", defArgs s__law_change, defBody s__law_change, defScope s__law_change, [], []⟩) rfl
  F_law := c.def_ 18 (d := ⟨fun K => (He.ga K "law"), "law", "law", defArgs s_law, defBody s_law, defScope s_law, [], []⟩) rfl

end HB
end
section
set_option Elab.async false
set_option linter.all false
set_option maxRecDepth 100000
set_option maxHeartbeats 4000000
namespace HB
open PySem L2
local macro_rules
  | `(tactic| walk_at "hb") => `(tactic| repeat (first
    | with_reducible apply w_seq | with_reducible apply w_sif | with_reducible apply w_set | with_reducible apply w_ret | with_reducible apply w_drop | with_reducible apply w_setIx | with_reducible apply w_sfld | with_reducible apply w_for | with_reducible apply w_raise | with_reducible apply w_try | with_reducible apply w_next | with_reducible apply w_retN | with_reducible apply w_asg
    | with_reducible apply w_bin | with_reducible apply w_c | with_reducible refine w_var rfl ?_ | with_reducible apply w_tval | with_reducible apply w_onB | with_reducible apply w_and | with_reducible apply w_or | with_reducible apply w_not | with_reducible apply w_eand | with_reducible apply w_eor | with_reducible apply w_enot | with_reducible apply w_if | with_reducible apply w_chain
    | with_reducible apply w_anil | with_reducible apply w_acons | with_reducible apply w_tup | with_reducible apply w_lst | with_reducible apply w_lstC | with_reducible apply w_cb | with_reducible apply w_neg | with_reducible apply w_negI
    | with_reducible apply w_add | with_reducible apply w_sub | with_reducible apply w_lt | with_reducible apply w_le | with_reducible apply w_gt | with_reducible apply w_ge | with_reducible apply w_eqI | with_reducible apply w_eqT | with_reducible apply w_neI | with_reducible apply w_neT | with_reducible apply w_isyI | with_reducible apply w_isnI | with_reducible apply w_isyT | with_reducible apply w_isnT | with_reducible apply w_isyB | with_reducible apply w_isnB | with_reducible apply w_isyP | with_reducible apply w_isnP | with_reducible apply w_isyL | with_reducible apply w_isnL | with_reducible apply w_isyN | with_reducible apply w_isnN | with_reducible apply w_isN
    | with_reducible refine w_mod (by decide) ?_ | with_reducible refine w_fdiv (by decide) ?_ | with_reducible refine w_pow (by decide) ?_ | with_reducible refine w_mul (.inr (by decide)) ?_
    | with_reducible apply w_abs | with_reducible apply w_int | with_reducible apply w_intB | with_reducible apply w_tupT | with_reducible apply w_mt | with_reducible apply w_mt0 | with_reducible apply w_gidx | with_reducible apply w_fld | with_reducible apply w_pr | with_reducible apply w_cal | with_reducible apply w_mc | with_reducible apply w_calF | with_reducible apply w_mk | with_reducible apply w_frz | with_reducible apply w_iu | with_reducible apply w_lc | with_reducible apply w_sl | with_reducible apply w_onone | with_reducible apply w_osome | with_reducible apply w_slF | with_reducible apply w_slL | with_reducible apply w_yes | with_reducible apply w_rng1
    | with_reducible refine w_ix (sqU_own (by assumption)) rfl ?_ | with_reducible refine w_ix (sqU_own (get_set (by assumption))) rfl ?_ | with_reducible refine w_len (sqU_l _ _) ?_
    | refine ⟨_, setIx_own (by assumption) rfl, ?_⟩ | refine ⟨_, setIx_own (get_set (by assumption)) rfl, ?_⟩
    | refine ⟨fun h => absurd h (by decide), fun _ => ?_⟩ | refine ⟨fun _ => ?_, fun h => absurd h (by decide)⟩
    | refine ⟨(rfl : fits _ = true), ?_⟩ | refine ⟨isLs_own (by assumption), ?_⟩
    | refine ⟨_, _, _, insU_own (by assumption), rfl, rfl, ?_⟩ | refine ⟨hasM_own (by assumption) rfl, ?_⟩ | refine ⟨(rfl : (_ == _ && _ == _) = true), ?_⟩
    | dsimp only))
local macro_rules
  | `(tactic| walk_at "hd") => `(tactic| first
    | refine ⟨_, (rfl : U.d _ = U.d _), ?_⟩ | refine ⟨_, (rfl : allD _ = some _), (rfl : fits _ = true), ?_⟩ | refine ⟨_, (rfl : itemsU (.d _) = some _), ?_⟩
    | with_reducible refine w_ix (sqU_t _ _) rfl ?_ | with_reducible refine w_ix (sqU_l _ _) rfl ?_
    | with_reducible refine w_len (sqU_own (by assumption)) ?_
    | with_reducible apply w_sforO | with_reducible apply w_io | with_reducible apply w_slcO | refine ⟨_, _, (rfl : U.own _ = U.own _), (by assumption), ?_⟩
    | with_reducible refine w_aug rfl ?_
    | refine w_forNil ?_ | refine w_forCons rfl ?_)
local macro_rules
  | `(tactic| walk_at "hc") => `(tactic| (walk_at "hb"; repeat (walk_at "hd"; walk_at "hb")))
/-! the law's dice -/
def IsBox (c : Cell) : Prop := ∃ (a b e : Int) (xs : List Int), c = .lst [.d (.int a), .d (.int b), .d (.int e), .d (.lst (xs.map D.int))] ∧ 0 ≤ b
theorem IsBox.below {c : Cell} {n : Nat} (h : IsBox c) : cellBelow n c = true := by
  obtain ⟨a, b, e, xs, rfl, _⟩ := h
  rfl
theorem w_take {μ : Store} {n : Nat} {c : Cell} {s : Int} {Q : U → Store → Prop} {E : Err → Store → Prop} (wf : Wf μ) (hc : μ[n]? = some c) (hb : IsBox c) (hs : 0 < s ∧ s < 1073741824)
    (h : ∀ r c', IsBox c' → 0 ≤ r → r < s → Q (.d (.int r)) (μ.set n c')) : wE (g__law_take [.own n, .d (.int s)] μ) Q E := by
  obtain ⟨a, b, e, xs, rfl, hb⟩ := hb
  have fin : ∀ r c', IsBox c' → 0 ≤ r → r < s → below μ.length (.d (.int r)) = true ∧ Cut μ (μ.set n c') = true ∧ Q (.d (.int r)) ((μ.set n c').take μ.length) := by
    intro r c' h1 h2 h3
    have hl : (μ.set n c').length = μ.length := List.length_set
    refine ⟨rfl, cut_same (wf.set h1.below) hl, ?_⟩
    rw [← hl, List.take_length]
    exact h r c' h1 h2 h3
  unfold g__law_take
  apply w_trunc
  apply w_fn rfl
  unfold F__law_take
  refine w_seqI (fun δ' μ' => ∃ c' x2 x3, IsBox c' ∧ μ' = μ.set n c' ∧ δ' = [some (.own n), some (.d (.int s)), x2, x3]) ?_ ?_
  · have same : IsBox (.lst [.d (.int a), .d (.int b), .d (.int e), .d (.lst (xs.map D.int))]) := ⟨a, b, e, xs, rfl, hb⟩
    have keep : μ.set n (.lst [.d (.int a), .d (.int b), .d (.int e), .d (.lst (xs.map D.int))]) = μ := set_same hc
    walk_at "hb"
    refine ⟨fun q1 => ?_, fun q1 => ?_⟩
    rotate_left
    · walk_at "hb"
      exact ⟨_, _, _, same, keep.symm, rfl⟩
    walk_at "hb"
    refine ⟨fun q2 => ?_, fun q2 => ?_⟩
    rotate_left
    · walk_at "hb"
      exact ⟨_, _, _, same, keep.symm, rfl⟩
    obtain ⟨x, hx⟩ := atI_ints hb (show b < xs.length by simpa using q2)
    walk_at "hb"
    refine w_ix (sqU_l _ _) hx ?_
    walk_at "hb"
    refine ⟨fun q3 => ?_, fun q3 => ?_⟩
    · walk_at "hb"
      exact ⟨_, _, _, ⟨_, _, _, _, rfl, by omega⟩, List.set_set .., rfl⟩
    · walk_at "hb"
      exact ⟨_, _, _, ⟨_, _, _, _, rfl, by omega⟩, List.set_set .., rfl⟩
  · rintro δ' μ' ⟨c', x2, x3, ⟨a, b, e, xs, rfl, hb⟩, rfl, rfl⟩
    have h1 := Int.emod_nonneg a (show s ≠ 0 by omega)
    have h2 := Int.emod_lt_of_pos a hs.1
    have hc' := get_set (c' := .lst [.d (.int a), .d (.int b), .d (.int e), .d (.lst (xs.map D.int))]) hc
    walk_at "hb"
    refine ⟨fun q1 => ?_, fun q1 => ?_⟩
    · walk_at "hb"
      refine w_mod hs.1 ?_
      walk_at "hb"
      refine w_fdiv hs ?_
      walk_at "hb"
      rw [List.set_set]
      exact fin _ _ ⟨_, _, _, _, rfl, hb⟩ h1 h2
    · walk_at "hb"
      refine w_mod hs.1 ?_
      rw [List.set_set]
      exact fin _ _ ⟨_, _, _, _, rfl, hb⟩ (Int.emod_nonneg _ (by omega)) (Int.emod_lt_of_pos _ hs.1)
/-- again, at a store whose cell n was set -/
theorem w_takeS {μ : Store} {n : Nat} {c c0 : Cell} {s : Int} {Q : U → Store → Prop} {E : Err → Store → Prop} (wf : Wf μ) (hc : μ[n]? = some c0) (hb : IsBox c) (hs : 0 < s ∧ s < 1073741824)
    (h : ∀ r c', IsBox c' → 0 ≤ r → r < s → Q (.d (.int r)) (μ.set n c')) : wE (g__law_take [.own n, .d (.int s)] (μ.set n c)) Q E :=
  w_take (wf.set hb.below) (get_set hc) hb hs fun r c' h1 h2 h3 => by
    rw [List.set_set]
    exact h r c' h1 h2 h3
/-- the box -/
theorem w_box {μ : Store} {ns : List Int} {Q : U → Store → Prop} {E : Err → Store → Prop} (h : ∀ c, IsBox c → Q (.own μ.length) (μ ++ [c])) : wE (g__law_box [.d (.fl (ns.map D.int))] μ) Q E := by
  unfold g__law_box
  apply w_fn rfl
  unfold F__law_box
  walk_at "hb"
  refine ⟨_, rfl, ?_⟩
  walk_at "hb"
  rw [cut_map]
  have hlen : (cutL ns none (some 63)).length ≤ 63 := by
    unfold cutL
    rw [List.length_take]
    have : HT.sIx ns.length ns.length (some 63) ≤ 63 := by
      show (if (63 : Int) < 0 then ((63 : Int) + (ns.length : Int)).toNat else min (63 : Int).toNat ns.length) ≤ 63
      rw [if_neg (by decide)]
      exact Nat.min_le_left _ _
    omega
  refine ⟨_, rfl, ?_⟩
  refine w_lcL (fun r acc μ' => μ' = μ ∧ ∃ as bs : List Int, acc = (as.map D.int).map U.d ∧ r = (bs.map D.int).map U.d ∧ as.length + bs.length ≤ 63) ⟨rfl, [], cutL ns none (some 63), rfl, rfl, by simpa using hlen⟩ ?_ ?_
  · rintro u r acc μ' ⟨rfl, as, bs, rfl, e, hl⟩
    cases bs with
    | nil => cases e
    | cons b bs =>
      simp only [List.map_cons, List.cons.injEq] at e
      obtain ⟨rfl, rfl⟩ := e
      refine ⟨_, rfl, ?_⟩
      walk_at "hb"
      simp only [List.length_cons] at hl
      refine ⟨decide_eq_true (by simp; omega), rfl, as ++ [b], bs, by simp, rfl, by simp; omega⟩
  · rintro acc μ' ⟨rfl, as, bs, rfl, e, hl⟩
    refine w_finD (allD_map _) ?_
    walk_at "hb"
    exact h _ ⟨0, 0, 0, as, rfl, by decide⟩
/-! names -/
def tails : List Str := ["", "q", "zz", "andy"]
/-- the l-th letter, p times more, the figure d, the t-th tail -/
def nm (l p d t : Nat) : Str := ((⟨#[97 + l]⟩ ++ Txt.mul ⟨#[97 + l]⟩ (p : Int)) ++ (toString (d : Int) : Str)) ++ tails.getD t ""
def Nm (p d : Nat) (x : Str) : Prop := ∃ l t, l < 26 ∧ t < 4 ∧ x = nm l p d t
theorem letter_at : ∀ i : Fin 26, atI ("abcdefghijklmnopqrstuvwxyz" : Str).cps.toList (i.val : Int) = some (97 + i.val) := by decide +kernel
theorem tail_at : ∀ i : Fin 4, atI (([.str "", .str "q", .str "zz", .str "andy"] : List D).map U.d) (i.val : Int) = some (.d (.str (tails.getD i.val ""))) := fun i => match i with
  | 0 => rfl
  | 1 => rfl
  | 2 => rfl
  | 3 => rfl
theorem mul_len : ∀ (l : Fin 26) (p : Fin 3), (Txt.mul ⟨#[97 + l.val]⟩ (p.val : Int)).length ≤ 2 := by decide +kernel
theorem dig_len : ∀ d : Fin 10, ((toString (d.val : Int) : String) : Str).length = 1 := by decide +kernel
theorem tail_len : ∀ t : Fin 4, (tails.getD t.val "").length ≤ 4 := by decide +kernel
theorem app_len (x y : Str) : (x ++ y).length = x.length + y.length := by
  show (x.cps ++ y.cps).size = _
  rw [Array.size_append]
  rfl
theorem pick {r : Int} {m : Nat} (b : Bool) (h0 : 0 ≤ r) (h1 : r < m) : ∃ l : Nat, l < m ∧ r * (1 - if b = true then 1 else 0) = (l : Int) := by
  cases b with
  | true => exact ⟨0, by omega, by simp⟩
  | false => exact ⟨r.toNat, by omega, by simp; omega⟩
theorem w_names {μ : Store} {n : Nat} {c : Cell} {cnt : Nat} {Q : U → Store → Prop} {E : Err → Store → Prop} (wf : Wf μ) (hc : μ[n]? = some c) (hb : IsBox c) (hn : cnt ≤ 1000)
    (h : ∀ (xs : List Str) (p s : Nat) c', IsBox c' → p < 3 → xs.length = cnt → (∀ i x, xs[i]? = some x → Nm p ((i * 7 + s) % 10) x) → Q (.d (.lst (xs.map D.str))) (μ.set n c')) : wE (g__law_names [.own n, .d (.int (cnt : Int))] μ) Q E := by
  unfold g__law_names
  apply w_trunc
  apply w_fn rfl
  unfold F__law_names
  walk_at "hb"
  refine w_take wf hc hb (by decide) fun s c1 b1 s0 s1 => ?_
  walk_at "hb"
  refine w_takeS wf hc b1 (by decide) fun p c2 b2 p0 p1 => ?_
  walk_at "hb"
  refine w_takeS wf hc b2 (by decide) fun al c3 b3 _ _ => ?_
  obtain ⟨sN, rfl⟩ := Int.eq_ofNat_of_zero_le s0
  obtain ⟨pN, rfl⟩ := Int.eq_ofNat_of_zero_le p0
  walk_at "hb"
  refine ⟨_, rfl, ⟨by omega, by omega⟩, ?_⟩
  refine w_forR (fun i δ' μ' => ∃ (xs : List Str) (c' : Cell) (x6 x7 x8 : Option U), IsBox c' ∧ xs.length = i ∧ (∀ i x, xs[i]? = some x → Nm pN ((i * 7 + sN) % 10) x) ∧ μ' = μ.set n c' ++ [.lst (xs.map fun x => .d (.str x))] ∧
    δ' = [some (.own n), some (.d (.int cnt)), some (.d (.int sN)), some (.d (.int pN)), some (.d (.bl (decide (al = 1)))), some (.own μ.length), x6, x7, x8]) ?_ ?_ ?_
  · refine ⟨[], c3, none, none, none, b3, rfl, fun i x e => by simp at e, rfl, ?_⟩
    rw [List.length_set]
    rfl
  · rintro i δ' μ' hi ⟨xs, c', x6, x7, x8, hb, hx, hN, rfl, rfl⟩
    refine ⟨_, rfl, ?_⟩
    have wfL : ∀ c', IsBox c' → Wf (μ.set n c' ++ [.lst (xs.map fun x => .d (.str x))]) := fun c' hb => (wf.set hb.below).app (by simp [cellBelow, below])
    have getL : ∀ c', (μ.set n c' ++ [.lst (xs.map fun x => .d (.str x))])[n]? = some c' := fun c' => get_app (get_set hc)
    have setL : ∀ c' c'', (μ.set n c' ++ [Cell.lst (xs.map fun x => U.d (D.str x))]).set n c'' = μ.set n c'' ++ [Cell.lst (xs.map fun x => U.d (D.str x))] := fun c' c'' => by rw [set_app (get_set hc), List.set_set]
    walk_at "hb"
    refine w_take (wfL _ hb) (getL _) hb (by decide) fun r1 c4 b4 r10 r11 => ?_
    rw [setL]
    walk_at "hb"
    refine w_mul (.inl (by omega)) ?_
    obtain ⟨l, hl, el⟩ := pick (decide (al = 1)) r10 r11
    rw [el]
    walk_at "hb"
    refine w_ixS (by decide) (letter_at ⟨l, hl⟩) ?_
    walk_at "hb"
    refine ⟨_, rfl, by decide, ?_⟩
    walk_at "hb"
    refine w_take (wfL _ b4) (getL _) b4 (by decide) fun r2 c5 b5 r20 r21 => ?_
    rw [setL]
    walk_at "hb"
    refine w_mul (.inl (by omega)) ?_
    obtain ⟨tN, ht, et⟩ := pick (decide (al = 1)) r20 r21
    rw [et]
    walk_at "hb"
    refine w_ix (sqU_l _ _) (tail_at ⟨tN, ht⟩) ?_
    walk_at "hb"
    refine ⟨isLs_own (get_last (by rw [List.length_set])), ?_⟩
    walk_at "hb"
    refine w_mulS ⟨⟨by omega, by omega⟩, by show 1 ≤ 1000; omega⟩ ?_
    have m1 : (Txt.mul ⟨#[97 + l]⟩ (pN : Int)).length ≤ 2 := mul_len ⟨l, hl⟩ ⟨pN, by omega⟩
    refine w_addS (decide_eq_true (by show 1 + _ ≤ _; omega)) ?_
    walk_at "hb"
    have e10 : (0 + (i : Int)) * 7 + (sN : Int) = ((i * 7 + sN : Nat) : Int) := by omega
    have e11 : (((i * 7 + sN : Nat) : Int)) % 10 = (((i * 7 + sN) % 10 : Nat) : Int) := by omega
    rw [e10, e11]
    have hd : (i * 7 + sN) % 10 < 10 := Nat.mod_lt _ (by decide)
    refine w_str ?_ ?_
    · have : ((((i * 7 + sN) % 10 : Nat) : Int)).natAbs < 10 := by omega
      exact Nat.lt_of_le_of_lt (Nat.log2_le_self _) (by omega)
    have m2 : ((toString (((i * 7 + sN) % 10 : Nat) : Int) : String) : Str).length = 1 := dig_len ⟨_, hd⟩
    have m3 : (tails.getD tN "").length ≤ 4 := tail_len ⟨tN, ht⟩
    refine w_addS (decide_eq_true (by rw [app_len]; rw [m2]; show 1 + _ + 1 ≤ _; omega)) ?_
    walk_at "hb"
    refine w_addS (decide_eq_true (by rw [app_len, app_len]; rw [m2]; show 1 + _ + 1 + _ ≤ _; omega)) ?_
    walk_at "hb"
    refine w_app (get_last (by rw [List.length_set])) ?_ ?_
    · simp [fits]
      omega
    rw [set_last (by rw [List.length_set])]
    refine ⟨xs ++ [nm l pN ((i * 7 + sN) % 10) tN], c5, _, _, _, b5, by simp [hx], fun j x ej => ?_, ?_, rfl⟩
    · by_cases hj : j < xs.length
      · rw [List.getElem?_append_left hj] at ej
        exact hN j x ej
      · have hj2 : j = xs.length := by
          have := (List.getElem?_eq_some_iff.mp ej).1
          simp at this
          omega
        subst hj2
        simp at ej
        subst ej
        rw [hx]
        exact ⟨l, tN, hl, ht, rfl⟩
    · rw [List.map_append]
      rfl
  · rintro δ' μ' ⟨xs, c', x6, x7, x8, hb, hx, hN, rfl, rfl⟩
    walk_at "hb"
    refine w_frzL (get_last (by rw [List.length_set])) (ds := xs.map D.str) ?_ ?_
    · rw [show (xs.map fun x => U.d (D.str x)) = (xs.map D.str).map U.d by simp]
      exact allD_map _
    rw [set_last (by rw [List.length_set])]
    exact back_ok (wf.set hb.below) List.length_set rfl (h xs pN sN c' hb (by omega) (by omega) hN)
/-! which texts are names -/
def LET : List Nat := ("abcdefghijklmnopqrstuvwxyz" : Str).cps.toList
def DIG : List Nat := ("0123456789" : Str).cps.toList
def RES : List D := [.str "any", .str "end", .str "none", .str "not", .str "or"]
def first? (x : Str) : Bool := match x.cps.toList with
  | c :: _ => decide (c ∈ LET)
  | [] => false
def isName (x : Str) : Bool := !decide (x = "") && (decide (x.length ≤ 8) && (!inD (.str x) RES && (first? x && x.cps.toList.all fun c => decide (c ∈ LET) || decide (c ∈ DIG))))
theorem w_isname {μ : Store} {x : Str} {Q : U → Store → Prop} {E : Err → Store → Prop} (wf : Wf μ) (hf : fits x.length = true) (h : Q (.d (.bl (isName x))) μ) : wE (g_is_name [.d (.str x)] μ) Q E := by
  have no : isName x = false → below μ.length (.d (.bl false)) = true ∧ Cut μ μ = true ∧ Q (.d (.bl false)) (μ.take μ.length) := fun e => by
    rw [e] at h
    exact back_same wf rfl rfl h
  unfold g_is_name
  apply w_trunc
  apply w_fn rfl
  unfold F_is_name
  walk_at "hb"
  refine ⟨fun q1 => ?_, fun q1 => ?_⟩
  rotate_left
  · walk_at "hb"
    exact no (by simp at q1; simp [isName, q1])
  walk_at "hb"
  refine w_lenS hf ?_
  walk_at "hb"
  refine ⟨fun q2 => ?_, fun q2 => ?_⟩
  rotate_left
  · walk_at "hb"
    exact no (by simp at q2; simp [isName]; omega)
  walk_at "hb"
  refine w_in (us := RES.map U.d) (ds := RES) rfl (allD_map _) rfl ?_
  walk_at "hb"
  refine ⟨fun q3 => ?_, fun q3 => ?_⟩
  · walk_at "hb"
    exact no (by simp [isName, q3])
  walk_at "hb"
  have hne : ∃ c r, x.cps.toList = c :: r := by
    cases e : x.cps.toList with
    | nil =>
      exfalso
      obtain ⟨⟨l⟩⟩ := x
      simp only at e
      subst e
      exact absurd q1 (by decide)
    | cons c r => exact ⟨c, r, rfl⟩
  obtain ⟨c0, r0, ec⟩ := hne
  refine w_ixS hf (c := c0) (by rw [ec, atI_at (by decide) (by rw [List.length_cons]; omega)]; rfl) ?_
  walk_at "hb"
  refine w_ninC ?_
  walk_at "hb"
  refine ⟨fun q4 => ?_, fun q4 => ?_⟩
  · walk_at "hb"
    exact no (by
      have : decide (c0 ∈ LET) = false := by simpa [LET] using q4
      simp [isName, first?, ec, this])
  walk_at "hb"
  refine ⟨signs x, rfl, ?_⟩
  refine w_forI (fun i δ' μ' => μ' = μ ∧ (∃ y, δ' = [some (.d (.str x)), y]) ∧ ∀ j c, j < i → x.cps.toList[j]? = some c → (decide (c ∈ LET) || decide (c ∈ DIG)) = true) ⟨rfl, ⟨none, rfl⟩, fun j c hj => absurd hj (Nat.not_lt_zero _)⟩ ?_ ?_
  · rintro i u δ' μ' eu ⟨rfl, ⟨y, rfl⟩, hall⟩
    unfold signs at eu
    rw [List.getElem?_map, Option.map_eq_some_iff] at eu
    obtain ⟨c, ec', rfl⟩ := eu
    refine ⟨_, rfl, ?_⟩
    have step : (decide (c ∈ LET) || decide (c ∈ DIG)) = true → ∀ j c', j < i + 1 → x.cps.toList[j]? = some c' → (decide (c' ∈ LET) || decide (c' ∈ DIG)) = true := fun hc j c' hj ej => by
      by_cases q : j < i
      · exact hall j c' q ej
      · have : j = i := by omega
        subst this
        rw [ec'] at ej
        cases ej
        exact hc
    walk_at "hb"
    refine w_ninC ?_
    walk_at "hb"
    refine ⟨fun q5 => ?_, fun q5 => ?_⟩
    rotate_left
    · walk_at "hb"
      exact ⟨rfl, ⟨_, rfl⟩, step (by
        have : decide (c ∈ LET) = true := by simpa [LET] using q5
        rw [this]; rfl)⟩
    walk_at "hb"
    refine w_ninC ?_
    walk_at "hb"
    refine ⟨fun q6 => ?_, fun q6 => ?_⟩
    · walk_at "hb"
      refine no ?_
      have h1 : decide (c ∈ LET) = false := by simpa [LET] using q5
      have h2 : decide (c ∈ DIG) = false := by simpa [DIG] using q6
      have h3 : (x.cps.toList.all fun c => decide (c ∈ LET) || decide (c ∈ DIG)) = false := by
        rw [List.all_eq_false]
        exact ⟨c, List.mem_of_getElem? ec', by rw [h1, h2]; decide⟩
      simp only [isName, h3, Bool.and_false]
    · walk_at "hb"
      exact ⟨rfl, ⟨_, rfl⟩, step (by
        have : decide (c ∈ DIG) = true := by simpa [DIG] using q6
        rw [this, Bool.or_true])⟩
  · rintro δ' μ' ⟨rfl, ⟨y, rfl⟩, hall⟩
    walk_at "hb"
    have yes : isName x = true := by
      have h1 : decide (x = "") = false := q1
      have h2 : decide (x.length ≤ 8) = true := by simp at q2; exact decide_eq_true (by omega)
      have h3 : inD (.str x) RES = false := q3
      have h4 : first? x = true := by
        unfold first?
        rw [ec]
        simpa [LET] using q4
      have h5 : (x.cps.toList.all fun c => decide (c ∈ LET) || decide (c ∈ DIG)) = true := by
        rw [List.all_eq_true]
        intro c hc
        obtain ⟨j, ej⟩ := List.getElem?_of_mem hc
        exact hall j c (by
          have := (List.getElem?_eq_some_iff.mp ej).1
          simpa [signs] using this) ej
      simp only [isName, h1, h2, h3, h4, h5, Bool.not_false, Bool.and_true]
    rw [yes] at h
    exact back_same wf rfl rfl h
/-! the check of a list of names: good lists pass -/
theorem inD_strs {x : Str} {ys : List Str} : inD (.str x) (ys.map D.str) = decide (x ∈ ys) := by
  induction ys with
  | nil => rfl
  | cons y r ih =>
    have e : inD (.str x) ((y :: r).map D.str) = ((y == x) || inD (.str x) (r.map D.str)) := rfl
    rw [e, ih]
    by_cases h : y = x
    · subst h
      simp
    · have h2 : ¬ x = y := fun e => h e.symm
      simp [h, h2]
def Names (xs : List Str) : Prop := (∀ x ∈ xs, isName x = true) ∧ xs.Nodup
theorem isName_len {x : Str} (h : isName x = true) : x.length ≤ 8 := by
  simp only [isName, Bool.and_eq_true, decide_eq_true_eq] at h
  exact h.2.1
theorem isName_fits {x : Str} (h : isName x = true) : fits x.length = true := decide_eq_true (by have := isName_len h; omega)
theorem w_check {μ : Store} {v : U} {xs : List Str} {most : Int} {Q : U → Store → Prop} {E : Err → Store → Prop} (wf : Wf μ) (hv : v = .d (.lst (xs.map D.str)) ∨ v = .d (.tup (xs.map D.str))) (hn : Names xs) (h1 : 1 ≤ xs.length) (h2 : (xs.length : Int) ≤ most) (hb : xs.length ≤ 1000) (h : Q (.d .non) μ) : wE (g_check_names [v, .d (.int most)] μ) Q E := by
  have hs : ∀ ν, sqU ν v = some ((xs.map D.str).map U.d) := fun ν => by rcases hv with rfl | rfl <;> rfl
  have hi : itemsU v = some ((xs.map D.str).map U.d) := by rcases hv with rfl | rfl <;> rfl
  unfold g_check_names
  apply w_trunc
  apply w_fn rfl
  unfold F_check_names
  walk_at "hb"
  refine w_len (hs _) ?_
  walk_at "hb"
  refine ⟨fun q1 => ?_, fun q1 => absurd q1 (by simp; omega)⟩
  walk_at "hb"
  refine ⟨fun q2 => absurd q2 (by simp; omega), fun q2 => ?_⟩
  walk_at "hb"
  refine ⟨_, hi, ?_⟩
  refine w_forI (fun i δ' μ' => i ≤ xs.length ∧ μ' = μ ++ [.lst (((xs.take i).map D.str).map U.d)] ∧ ∃ y, δ' = [some v, some (.d (.int most)), some (.own μ.length), y]) ⟨Nat.zero_le _, rfl, none, rfl⟩ ?_ ?_
  · rintro i u δ' μ' eu ⟨hi, rfl, y, rfl⟩
    rw [List.map_map, List.getElem?_map, Option.map_eq_some_iff] at eu
    obtain ⟨x, ex, rfl⟩ := eu
    have hl : i < xs.length := (List.getElem?_eq_some_iff.mp ex).1
    have hx : isName x = true := hn.1 x (List.mem_of_getElem? ex)
    have wf2 : Wf (μ ++ [.lst (((xs.take i).map D.str).map U.d)]) := wf.app (one_below (data_below _ _))
    refine ⟨_, rfl, ?_⟩
    walk_at "hb"
    refine w_isname wf2 (isName_fits hx) ?_
    rw [hx]
    walk_at "hb"
    refine w_in (us := ((xs.take i).map D.str).map U.d) (ds := (xs.take i).map D.str) (sqU_own (get_last rfl)) (allD_map _) (strs_flat _) ?_
    rw [inD_strs]
    have nin : x ∉ xs.take i := fun hm => by
      obtain ⟨j, ej⟩ := List.getElem?_of_mem hm
      rw [List.getElem?_take] at ej
      split at ej
      · rename_i hj
        have := (List.getElem?_inj (by omega) hn.2).mp (ej.trans ex.symm)
        omega
      · cases ej
    rw [decide_eq_false nin]
    walk_at "hb"
    refine ⟨isLs_own (get_last rfl), ?_⟩
    walk_at "hb"
    refine w_app (get_last rfl) (by simp [fits]; omega) ?_
    rw [set_last rfl]
    refine ⟨hl, ?_, _, rfl⟩
    have e : xs.take (i + 1) = xs.take i ++ [x] := by
      rw [List.take_succ, ex]
      rfl
    rw [e, List.map_append, List.map_append]
    rfl
  · rintro δ' μ' ⟨hi, rfl, y, rfl⟩
    walk_at "hb"
    exact back_ok wf rfl rfl h
/-! the law's names are names, each another -/
theorem nm_name : ∀ (l : Fin 26) (p : Fin 3) (d : Fin 10) (t : Fin 4), isName (nm l.val p.val d.val t.val) = true := by decide +kernel
theorem nm_digit : ∀ (l : Fin 26) (p : Fin 3) (d : Fin 10) (t : Fin 4), (nm l.val p.val d.val t.val).cps.toList[p.val + 1]? = some (48 + d.val) := by decide +kernel
theorem names_ok {xs : List Str} {p s : Nat} (hp : p < 3) (hl : xs.length ≤ 10) (h : ∀ i x, xs[i]? = some x → Nm p ((i * 7 + s) % 10) x) : Names xs := by
  constructor
  · intro x hx
    obtain ⟨i, e⟩ := List.getElem?_of_mem hx
    obtain ⟨l, t, h1, h2, rfl⟩ := h i x e
    exact nm_name ⟨l, h1⟩ ⟨p, hp⟩ ⟨_, Nat.mod_lt _ (by decide)⟩ ⟨t, h2⟩
  · refine List.pairwise_iff_getElem.mpr fun i j hi hj hij e => ?_
    have ei : xs[i]? = some xs[i] := List.getElem?_eq_getElem hi
    have ej : xs[j]? = some xs[j] := List.getElem?_eq_getElem hj
    obtain ⟨l, t, h1, h2, e1⟩ := h i _ ei
    obtain ⟨l', t', h1', h2', e2⟩ := h j _ ej
    have d1 : (nm l p ((i * 7 + s) % 10) t).cps.toList[p + 1]? = some (48 + (i * 7 + s) % 10) := nm_digit ⟨l, h1⟩ ⟨p, hp⟩ ⟨_, Nat.mod_lt (i * 7 + s) (by decide)⟩ ⟨t, h2⟩
    have d2 : (nm l' p ((j * 7 + s) % 10) t').cps.toList[p + 1]? = some (48 + (j * 7 + s) % 10) := nm_digit ⟨l', h1'⟩ ⟨p, hp⟩ ⟨_, Nat.mod_lt (j * 7 + s) (by decide)⟩ ⟨t', h2'⟩
    rw [← e1, e] at d1
    rw [← e2, d1] at d2
    have := Option.some.inj d2
    omega
/-! a book in the store -/
abbrev bookFs (n : Nat) (last : Int) (pe ve li : List D) : List (Str × U) := [("last_day", .d (.int last)), ("_people", .d (.lst pe)), ("_versions", .d (.lst ve)), ("_meetings", .own (n + 1)), ("_turns", .own (n + 2)), ("_facts", .own (n + 3)), ("_limits", .d (.tup li)), ("_past", .own (n + 4))]
abbrev bookL (n : Nat) (last : Int) (pe ve me tu fa li pa : List D) : Store := [.ins "Book" (bookFs n last pe ve li), .lst (me.map U.d), .lst (tu.map U.d), .lst (fa.map U.d), .lst (pa.map U.d)]
structure BookAt (μ : Store) (n : Nat) (last : Int) (pe ve me tu fa li pa : List D) : Prop where
  b : μ[n]? = some (.ins "Book" (bookFs n last pe ve li))
  m : μ[n + 1]? = some (.lst (me.map U.d))
  t : μ[n + 2]? = some (.lst (tu.map U.d))
  f : μ[n + 3]? = some (.lst (fa.map U.d))
  p : μ[n + 4]? = some (.lst (pa.map U.d))
theorem w_book {μ : Store} {pe : List Str} {ve : U} {vs : List Str} {last : Int} {Q : U → Store → Prop} {E : Err → Store → Prop} (wf : Wf μ) (hp : Names pe) (p1 : 1 ≤ pe.length) (p8 : pe.length ≤ 8) (hv : ve = .d (.lst (vs.map D.str)) ∨ ve = .d (.tup (vs.map D.str))) (hn : Names vs) (v1 : 1 ≤ vs.length) (v3 : vs.length ≤ 3) (l1 : 1 ≤ last) (l30 : last ≤ 30)
    (h : Q (.d .non) (μ ++ bookL μ.length last (pe.map D.str) (vs.map D.str) [] [] [] [.int 1, .non, .non, .non] [])) : wE (g_BookU_initU [.own μ.length, .d (.lst (pe.map D.str)), ve, .d (.int last)] (μ ++ [.ins "Book" []])) Q E := by
  have wf1 : Wf (μ ++ [.ins "Book" []]) := wf.app rfl
  have hs : ∀ ν, sqU ν ve = some ((vs.map D.str).map U.d) := fun ν => by rcases hv with rfl | rfl <;> rfl
  unfold g_BookU_initU
  apply w_fn rfl
  unfold F_BookU_initU
  walk_at "hb"
  refine w_check wf1 (.inl rfl) hp p1 (by omega) (by omega) ?_
  walk_at "hb"
  refine w_check wf1 hv hn v1 (by omega) (by omega) ?_
  walk_at "hb"
  refine ⟨fun q1 => ?_, fun q1 => absurd q1 (by simp; omega)⟩
  walk_at "hb"
  refine ⟨fun q2 => absurd q2 (by simp; omega), fun q2 => ?_⟩
  walk_at "hb"
  refine ⟨_, setFld_own get_ap0 rfl rfl, ?_⟩
  rw [set_ap0]
  walk_at "hb"
  refine w_list (sqU_l _ _) (allD_map _) ?_
  walk_at "hb"
  refine ⟨_, setFld_own get_ap0 rfl rfl, ?_⟩
  rw [set_ap0]
  walk_at "hb"
  refine w_list (hs _) (allD_map _) ?_
  walk_at "hb"
  refine ⟨_, setFld_own get_ap0 rfl rfl, ?_⟩
  rw [set_ap0]
  walk_at "hb"
  simp only [List.append_assoc, List.cons_append, List.nil_append, List.length_append, List.length_cons, List.length_nil, Nat.zero_add]
  refine ⟨_, setFld_own get_ap0 rfl rfl, ?_⟩
  rw [set_ap0]
  walk_at "hb"
  simp only [List.append_assoc, List.cons_append, List.nil_append, List.length_append, List.length_cons, List.length_nil, Nat.zero_add]
  refine ⟨_, setFld_own get_ap0 rfl rfl, ?_⟩
  rw [set_ap0]
  walk_at "hb"
  simp only [List.append_assoc, List.cons_append, List.nil_append, List.length_append, List.length_cons, List.length_nil, Nat.zero_add]
  refine ⟨_, setFld_own get_ap0 rfl rfl, ?_⟩
  rw [set_ap0]
  walk_at "hb"
  refine ⟨_, rfl, rfl, ?_⟩
  walk_at "hb"
  refine ⟨_, setFld_own get_ap0 rfl rfl, ?_⟩
  rw [set_ap0]
  walk_at "hb"
  simp only [List.append_assoc, List.cons_append, List.nil_append, List.length_append, List.length_cons, List.length_nil, Nat.zero_add]
  refine ⟨_, setFld_own get_ap0 rfl rfl, ?_⟩
  rw [set_ap0]
  exact h
theorem BookAt.wf {μ : Store} {n : Nat} {last : Int} {pe ve me tu fa li pa : List D} (B : BookAt μ n last pe ve me tu fa li pa) : n + 4 < μ.length := get_len B.p
theorem book_below {N n : Nat} {last : Int} {pe ve li : List D} (h : n + 4 < N) : cellBelow N (.ins "Book" (bookFs n last pe ve li)) = true := by
  simp only [cellBelow, bookFs, List.all_cons, List.all_nil, below, Bool.and_true, Bool.true_and, Bool.and_eq_true, decide_eq_true_eq]
  omega
/-- _keep -/
abbrev stateD (me tu fa li : List D) : D := .tup [.lst me, .lst tu, .lst fa, .tup li]
theorem w_keep {μ : Store} {n : Nat} {last : Int} {pe ve me tu fa li pa : List D} {Q : U → Store → Prop} {E : Err → Store → Prop} (wf : Wf μ) (B : BookAt μ n last pe ve me tu fa li pa) (hf : fits pa.length = true)
    (h : Q (.d .non) (μ.set (n + 4) (.lst ((pa ++ [stateD me tu fa li]).map U.d)))) : wE (g_BookUkeep [.own n] μ) Q E := by
  obtain ⟨Bb, Bm, Bt, Bf, Bp⟩ := B
  unfold g_BookUkeep
  apply w_trunc
  apply w_fn rfl
  unfold F_BookUkeep
  walk_at "hb"
  refine w_list (sqU_own Bm) (allD_map _) ?_
  walk_at "hb"
  refine w_list (sqU_own Bt) (allD_map _) ?_
  walk_at "hb"
  refine w_list (sqU_own Bf) (allD_map _) ?_
  walk_at "hb"
  refine ⟨_, rfl, rfl, ?_⟩
  walk_at "hb"
  refine w_app Bp (by rw [List.length_map]; exact hf) ?_
  have e : pa.map U.d ++ [U.d (stateD me tu fa li)] = (pa ++ [stateD me tu fa li]).map U.d := by rw [List.map_append]; rfl
  rw [e]
  exact back_same (wf.set (data_below _ _)) List.length_set rfl h
/-! limits -/
def KND : List Str := ["begins", "held", "turns", "tellers"]
def LimV (d : D) : Prop := d = .non ∨ ∃ i : Int, d = .int i ∧ 0 ≤ i ∧ i ≤ 24
theorem knd_in {k : Str} : inD (.str k) [.str "begins", .str "held", .str "turns", .str "tellers"] = decide (k ∈ KND) := inD_strs (ys := KND)
theorem idx_of {z : Str} : ∀ {ys : List Str}, z ∈ ys → ∃ j, idxOf z ys = some j ∧ j < ys.length
  | [], h => by cases h
  | y :: r, h => by
    unfold idxOf
    by_cases e : y = z
    · exact ⟨0, by rw [if_pos e], by simp⟩
    · rw [if_neg e]
      rcases List.mem_cons.mp h with h | h
      · exact absurd h.symm e
      · obtain ⟨j, e1, e2⟩ := idx_of h
        exact ⟨j + 1, by rw [e1]; rfl, by simp; omega⟩
section
variable {μ : Store} {n : Nat} {last : Int} {pe ve me tu fa li pa : List D} {Q : U → Store → Prop} {E : Err → Store → Prop}
/-- the store behind a change -/
def chg (μ : Store) (n : Nat) (last : Int) (pe ve me tu fa li pa : List D) (j : Nat) (c : D) : Store := (μ.set (n + 4) (.lst ((pa ++ [stateD me tu fa li]).map U.d))).set n (.ins "Book" (bookFs n last pe ve (li.set j c)))
theorem w_change_kind {k : Str} {c : D} (wf : Wf μ) (hk : k ∉ KND) (h : E ⟨"WrongKind", ["word"], [.str k]⟩ μ) : wE (g_Book_change [.own n, .d (.str k), .d c] μ) Q E := by
  unfold g_Book_change
  apply w_trunc
  apply w_fn rfl
  unfold F_Book_change
  walk_at "hb"
  refine w_nin (us := (KND.map D.str).map U.d) (ds := KND.map D.str) rfl (allD_map _) (strs_flat KND) ?_
  rw [inD_strs, decide_eq_false hk]
  walk_at "hb"
  refine ⟨_, rfl, ?_⟩
  simpa using back_err (ex := []) wf rfl h
theorem w_change_range {k : Str} {i : Int} (wf : Wf μ) (hk : k ∈ KND) (hi : ¬ (0 ≤ i ∧ i ≤ 24)) (h : E ⟨"OutOfRange", ["value"], [.int i]⟩ μ) : wE (g_Book_change [.own n, .d (.str k), .d (.int i)] μ) Q E := by
  have fin : Cut μ μ = true ∧ E ⟨"OutOfRange", ["value"], [.int i]⟩ (μ.take μ.length) := by simpa using back_err (ex := []) wf rfl h
  unfold g_Book_change
  apply w_trunc
  apply w_fn rfl
  unfold F_Book_change
  walk_at "hb"
  refine w_nin (us := (KND.map D.str).map U.d) (ds := KND.map D.str) rfl (allD_map _) (strs_flat KND) ?_
  rw [inD_strs, decide_eq_true hk]
  walk_at "hb"
  refine ⟨fun q1 => ?_, fun q1 => ?_⟩
  · walk_at "hb"
    refine ⟨fun q2 => ?_, fun q2 => absurd q2 (by simp at q1 ⊢; omega)⟩
    walk_at "hb"
    exact ⟨_, rfl, fin⟩
  · walk_at "hb"
    exact ⟨_, rfl, fin⟩
/-- behind the checks -/
noncomputable def F_rest : DEnv → Store → OutS := sSeq (sDrop (eMc "Book" "_keep" 0 0 (calF g_BookUkeep [.p 0] [] []) (eVar 0) aNil (aNil)))
    (sSeq (sSet 3 (eCB listC (aCons (eFld ["Book"] "_limits" (eVar 0)) (aNil))))
    (sSeq (sSetIx (eVar 3) (eGidx ["begins", "held", "turns", "tellers"] (aCons (eVar 1) (aNil))) (eVar 2))
    (sFldU ["Book"] "_limits" (eVar 0) (eCB tupleU (aCons (eVar 3) (aNil))))))
theorem w_change_ok {k : Str} {c : D} {j : Nat} (wf : Wf μ) (B : BookAt μ n last pe ve me tu fa li pa) (hf : fits pa.length = true) (hj : idxOf k KND = some j) (hl : li.length = 4) (hc : LimV c) (h : Q (.d .non) (chg μ n last pe ve me tu fa li pa j c)) : wE (g_Book_change [.own n, .d (.str k), .d c] μ) Q E := by
  have hk : k ∈ KND := List.mem_of_getElem? (idxOf_some hj).1
  have j4 : j < 4 := (List.getElem?_eq_some_iff.mp (idxOf_some hj).1).1
  have main : wS (F_rest (startE N_Book_change [.own n, .d (.str k), .d c]) μ) ⟨fun _ μ' => below μ.length (.d .non) = true ∧ Cut μ μ' = true ∧ Q (.d .non) (μ'.take μ.length), fun u μ' => below μ.length u = true ∧ Cut μ μ' = true ∧ Q u (μ'.take μ.length), fun x _ μ' => Cut μ μ' = true ∧ E x (μ'.take μ.length), fun _ _ => False, fun _ _ => False⟩ := by
    obtain ⟨Bb, Bm, Bt, Bf, Bp⟩ := id B
    unfold F_rest
    walk_at "hb"
    refine w_keep wf B hf ?_
    have B2 : (μ.set (n + 4) (.lst ((pa ++ [stateD me tu fa li]).map U.d)))[n]? = some (.ins "Book" (bookFs n last pe ve li)) := by rw [List.getElem?_set_ne (by omega)]; exact Bb
    walk_at "hb"
    refine w_listC (sqU_t _ _) ?_
    walk_at "hb"
    refine ⟨_, _, rfl, hj, ?_⟩
    refine ⟨_, setIx_own (get_last rfl) (ixN_nat (by rw [List.length_map]; omega)), ?_⟩
    rw [set_last rfl]
    have es : (li.map U.d).set j (U.d c) = (li.set j c).map U.d := List.map_set.symm
    rw [es]
    walk_at "hb"
    refine w_tupL (lsU_own (get_last rfl)) (allD_map _) ?_
    walk_at "hb"
    refine ⟨_, setFld_own (get_app B2) rfl rfl, ?_⟩
    rw [set_app B2]
    refine back_ok ?_ (by rw [List.length_set, List.length_set]) rfl h
    exact (wf.set (data_below _ _)).set (by rw [List.length_set]; exact book_below B.wf)
  unfold g_Book_change
  apply w_trunc
  apply w_fn rfl
  unfold F_Book_change
  refine w_seqI (fun δ' μ' => δ' = startE N_Book_change [.own n, .d (.str k), .d c] ∧ μ' = μ) ?_ ?_
  · walk_at "hb"
    refine w_nin (us := (KND.map D.str).map U.d) (ds := KND.map D.str) rfl (allD_map _) (strs_flat KND) ?_
    rw [inD_strs, decide_eq_true hk]
    walk_at "hb"
    exact ⟨rfl, rfl⟩
  rintro δ' μ' ⟨rfl, rfl⟩
  refine w_seqI (fun δ' μ'' => δ' = startE N_Book_change [.own n, .d (.str k), .d c] ∧ μ'' = μ') ?_ ?_
  · rcases hc with rfl | ⟨i, rfl, h0, h1⟩
    · walk_at "hb"
      exact ⟨rfl, rfl⟩
    · walk_at "hb"
      refine ⟨fun q1 => ?_, fun q1 => absurd q1 (by simp [h0])⟩
      walk_at "hb"
      refine ⟨fun q2 => absurd q2 (by simp [h1]), fun q2 => ?_⟩
      walk_at "hb"
      exact ⟨rfl, rfl⟩
  · rintro δ' μ'' ⟨rfl, rfl⟩
    exact main
theorem chg_book {k : Str} {c : D} {j : Nat} (B : BookAt μ n last pe ve me tu fa li pa) : BookAt (chg μ n last pe ve me tu fa li pa j c) n last pe ve me tu fa (li.set j c) (pa ++ [stateD me tu fa li]) := by
  obtain ⟨Bb, Bm, Bt, Bf, Bp⟩ := B
  have ln : n < μ.length := get_len Bb
  have l4 : n + 4 < μ.length := get_len Bp
  unfold chg
  refine ⟨?_, ?_, ?_, ?_, ?_⟩
  · rw [List.getElem?_set_self (by rw [List.length_set]; exact ln)]
  · rw [List.getElem?_set_ne (by omega), List.getElem?_set_ne (by omega)]
    exact Bm
  · rw [List.getElem?_set_ne (by omega), List.getElem?_set_ne (by omega)]
    exact Bt
  · rw [List.getElem?_set_ne (by omega), List.getElem?_set_ne (by omega)]
    exact Bf
  · rw [List.getElem?_set_ne (by omega), List.getElem?_set_self l4]
/-- the law's own call -/
theorem w_lawchange_kind {k : Str} {c : D} (wf : Wf μ) (B : BookAt μ n last pe ve me tu fa li pa) (hk : k ∉ KND) (h : Q (.d (.tup [.str "kind", .str k])) μ) : wE (g__law_change [.own n, .d (.str k), .d c] μ) Q E := by
  obtain ⟨Bb, Bm, Bt, Bf, Bp⟩ := id B
  unfold g__law_change
  apply w_trunc
  apply w_fn rfl
  unfold F__law_change
  walk_at "hb"
  refine w_change_kind wf hk ?_
  refine w_hit rfl rfl ?_
  walk_at "hb"
  refine w_xf rfl rfl rfl ?_
  walk_at "hb"
  refine ⟨_, rfl, rfl, ?_⟩
  exact back_same wf rfl rfl h
theorem w_lawchange_range {k : Str} {i : Int} (wf : Wf μ) (B : BookAt μ n last pe ve me tu fa li pa) (hk : k ∈ KND) (hi : ¬ (0 ≤ i ∧ i ≤ 24)) (h : Q (.d (.tup [.str "range", .int i])) μ) : wE (g__law_change [.own n, .d (.str k), .d (.int i)] μ) Q E := by
  obtain ⟨Bb, Bm, Bt, Bf, Bp⟩ := id B
  unfold g__law_change
  apply w_trunc
  apply w_fn rfl
  unfold F__law_change
  walk_at "hb"
  refine w_change_range wf hk hi ?_
  refine w_miss rfl rfl (w_hit rfl rfl ?_)
  walk_at "hb"
  refine w_xf rfl rfl rfl ?_
  walk_at "hb"
  refine ⟨_, rfl, rfl, ?_⟩
  exact back_same wf rfl rfl h
theorem chg_len {c : D} {j : Nat} : (chg μ n last pe ve me tu fa li pa j c).length = μ.length := by unfold chg; rw [List.length_set, List.length_set]
theorem chg_wf {c : D} {j : Nat} (wf : Wf μ) (B : BookAt μ n last pe ve me tu fa li pa) : Wf (chg μ n last pe ve me tu fa li pa j c) := by
  unfold chg
  exact (wf.set (data_below _ _)).set (by rw [List.length_set]; exact book_below B.wf)
theorem w_lawchange_ok {k : Str} {c : D} {j : Nat} (wf : Wf μ) (B : BookAt μ n last pe ve me tu fa li pa) (hf : fits pa.length = true) (hj : idxOf k KND = some j) (hl : li.length = 4) (hc : LimV c) (h : Q (.d (.tup [.str "done", .non])) (chg μ n last pe ve me tu fa li pa j c)) : wE (g__law_change [.own n, .d (.str k), .d c] μ) Q E := by
  obtain ⟨Bb, Bm, Bt, Bf, Bp⟩ := id B
  unfold g__law_change
  apply w_trunc
  apply w_fn rfl
  unfold F__law_change
  walk_at "hb"
  refine w_change_ok wf B hf hj hl hc ?_
  walk_at "hb"
  refine ⟨_, rfl, rfl, ?_⟩
  exact back_same (chg_wf wf B) chg_len rfl h
theorem w_limits (wf : Wf μ) (B : BookAt μ n last pe ve me tu fa li pa) (h : Q (.d (.tup li)) μ) : wE (g_Book_limits [.own n] μ) Q E := by
  obtain ⟨Bb, Bm, Bt, Bf, Bp⟩ := id B
  unfold g_Book_limits
  apply w_trunc
  apply w_fn rfl
  unfold F_Book_limits
  walk_at "hb"
  exact back_same wf rfl rfl h
theorem w_begin {a : D} (wf : Wf μ) (B : BookAt μ n last pe ve me tu fa li pa) (ha : li[0]? = some a) (h : Q (.d a) μ) : wE (g_Book_begin_limit [.own n] μ) Q E := by
  obtain ⟨Bb, Bm, Bt, Bf, Bp⟩ := id B
  have hl : 0 < li.length := (List.getElem?_eq_some_iff.mp ha).1
  unfold g_Book_begin_limit
  apply w_trunc
  apply w_fn rfl
  unfold F_Book_begin_limit
  walk_at "hb"
  refine w_ix (sqU_t _ _) (x := .d a) (by rw [atI_at (by decide) (by rw [List.length_map]; omega), List.getElem?_map]; show (li[0]?).map U.d = _; rw [ha]; rfl) ?_
  exact back_same wf rfl rfl h
theorem w_facts (wf : Wf μ) (B : BookAt μ n last pe ve me tu fa li pa) (h : Q (.d (.lst fa)) μ) : wE (g_Book_facts [.own n] μ) Q E := by
  obtain ⟨Bb, Bm, Bt, Bf, Bp⟩ := id B
  unfold g_Book_facts
  apply w_trunc
  apply w_fn rfl
  unfold F_Book_facts
  walk_at "hb"
  refine w_list (sqU_own Bf) (allD_map _) ?_
  exact back_same wf rfl rfl h
theorem w_meetings (wf : Wf μ) (B : BookAt μ n last pe ve me tu fa li pa) (h : Q (.d (.lst me)) μ) : wE (g_Book_meetings [.own n] μ) Q E := by
  obtain ⟨Bb, Bm, Bt, Bf, Bp⟩ := id B
  unfold g_Book_meetings
  apply w_trunc
  apply w_fn rfl
  unfold F_Book_meetings
  walk_at "hb"
  refine w_list (sqU_own Bm) (allD_map _) ?_
  exact back_same wf rfl rfl h
theorem w_turns (wf : Wf μ) (B : BookAt μ n last pe ve me tu fa li pa) (h : Q (.d (.lst tu)) μ) : wE (g_Book_turns [.own n] μ) Q E := by
  obtain ⟨Bb, Bm, Bt, Bf, Bp⟩ := id B
  unfold g_Book_turns
  apply w_trunc
  apply w_fn rfl
  unfold F_Book_turns
  walk_at "hb"
  refine w_list (sqU_own Bt) (allD_map _) ?_
  exact back_same wf rfl rfl h
end
end HB
end
section
set_option Elab.async false
set_option linter.all false
set_option maxRecDepth 100000
set_option maxHeartbeats 4000000
namespace HB
open PySem L2
local macro_rules
  | `(tactic| walk_at "hb") => `(tactic| repeat (first
    | with_reducible apply w_seq | with_reducible apply w_sif | with_reducible apply w_set | with_reducible apply w_ret | with_reducible apply w_drop | with_reducible apply w_setIx | with_reducible apply w_sfld | with_reducible apply w_for | with_reducible apply w_raise | with_reducible apply w_try | with_reducible apply w_next | with_reducible apply w_retN | with_reducible apply w_asg
    | with_reducible apply w_bin | with_reducible apply w_c | with_reducible refine w_var rfl ?_ | with_reducible apply w_tval | with_reducible apply w_onB | with_reducible apply w_and | with_reducible apply w_or | with_reducible apply w_not | with_reducible apply w_eand | with_reducible apply w_eor | with_reducible apply w_enot | with_reducible apply w_if | with_reducible apply w_chain
    | with_reducible apply w_anil | with_reducible apply w_acons | with_reducible apply w_tup | with_reducible apply w_lst | with_reducible apply w_lstC | with_reducible apply w_cb | with_reducible apply w_neg | with_reducible apply w_negI
    | with_reducible apply w_add | with_reducible apply w_sub | with_reducible apply w_lt | with_reducible apply w_le | with_reducible apply w_gt | with_reducible apply w_ge | with_reducible apply w_eqI | with_reducible apply w_eqT | with_reducible apply w_neI | with_reducible apply w_neT | with_reducible apply w_isyI | with_reducible apply w_isnI | with_reducible apply w_isyT | with_reducible apply w_isnT | with_reducible apply w_isyB | with_reducible apply w_isnB | with_reducible apply w_isyP | with_reducible apply w_isnP | with_reducible apply w_isyL | with_reducible apply w_isnL | with_reducible apply w_isyN | with_reducible apply w_isnN | with_reducible apply w_isN
    | with_reducible refine w_mod (by decide) ?_ | with_reducible refine w_fdiv (by decide) ?_ | with_reducible refine w_pow (by decide) ?_ | with_reducible refine w_mul (.inr (by decide)) ?_
    | with_reducible apply w_abs | with_reducible apply w_int | with_reducible apply w_intB | with_reducible apply w_tupT | with_reducible apply w_mt | with_reducible apply w_mt0 | with_reducible apply w_gidx | with_reducible apply w_fld | with_reducible apply w_pr | with_reducible apply w_cal | with_reducible apply w_mc | with_reducible apply w_calF | with_reducible apply w_mk | with_reducible apply w_frz | with_reducible apply w_iu | with_reducible apply w_lc | with_reducible apply w_sl | with_reducible apply w_onone | with_reducible apply w_osome | with_reducible apply w_slF | with_reducible apply w_slL | with_reducible apply w_yes | with_reducible apply w_rng1
    | with_reducible refine w_ix (sqU_own (by assumption)) rfl ?_ | with_reducible refine w_ix (sqU_own (get_set (by assumption))) rfl ?_ | with_reducible refine w_len (sqU_l _ _) ?_
    | refine ⟨_, setIx_own (by assumption) rfl, ?_⟩ | refine ⟨_, setIx_own (get_set (by assumption)) rfl, ?_⟩
    | refine ⟨fun h => absurd h (by decide), fun _ => ?_⟩ | refine ⟨fun _ => ?_, fun h => absurd h (by decide)⟩
    | refine ⟨(rfl : fits _ = true), ?_⟩ | refine ⟨isLs_own (by assumption), ?_⟩
    | refine ⟨_, _, _, insU_own (by assumption), rfl, rfl, ?_⟩ | refine ⟨hasM_own (by assumption) rfl, ?_⟩ | refine ⟨(rfl : (_ == _ && _ == _) = true), ?_⟩
    | dsimp only))
local macro_rules
  | `(tactic| walk_at "hd") => `(tactic| first
    | refine ⟨_, (rfl : U.d _ = U.d _), ?_⟩ | refine ⟨_, (rfl : allD _ = some _), (rfl : fits _ = true), ?_⟩ | refine ⟨_, (rfl : itemsU (.d _) = some _), ?_⟩
    | with_reducible refine w_ix (sqU_t _ _) rfl ?_ | with_reducible refine w_ix (sqU_l _ _) rfl ?_
    | with_reducible refine w_len (sqU_own (by assumption)) ?_
    | with_reducible apply w_sforO | with_reducible apply w_io | with_reducible apply w_slcO | refine ⟨_, _, (rfl : U.own _ = U.own _), (by assumption), ?_⟩
    | with_reducible refine w_aug rfl ?_
    | refine w_forNil ?_ | refine w_forCons rfl ?_)
local macro_rules
  | `(tactic| walk_at "hc") => `(tactic| (walk_at "hb"; repeat (walk_at "hd"; walk_at "hb")))
/-! the law -/
def KS : List Str := ["begins", "held", "turns", "tellers", "begin", "", "Held", "none"]
def CntV (d : D) : Prop := d = .non ∨ ∃ i : Int, d = .int i ∧ i.natAbs < 10 ^ 38
theorem ks_at (r : Int) (h0 : 0 ≤ r) (h1 : r < 8) : ∃ k, k ∈ KS ∧ atI ((KS.map D.str).map U.d) r = some (.d (.str k)) := by
  obtain ⟨u, e, m⟩ := atI_nat (l := (KS.map D.str).map U.d) h0 (by simpa [KS] using h1)
  simp only [List.map_map, List.mem_map] at m
  obtain ⟨k, hk, rfl⟩ := m
  exact ⟨k, hk, e⟩
theorem ks_ok : ∀ k ∈ KS, PyData.strOk k = true ∧ k.length ≤ 8 := by decide +kernel
theorem ks_idx : ∀ k ∈ KS, k ∈ KND → idxOf k KS = idxOf k KND := by decide +kernel
theorem lim_sh {li : List D} (hl : li.length = 4) (h : ∀ d ∈ li, LimV d) : DOk (.tup li) 1 600 := by
  have one : ∀ d ∈ li, DOk d 0 128 := fun d hd => by
    rcases h d hd with rfl | ⟨i, rfl, h0, h1⟩
    · exact .non
    · exact .int (by have : i.natAbs ≤ 24 := by omega
                     exact Nat.lt_of_le_of_lt this (by decide)) (Nat.le_refl _)
  match li, hl, one with
  | [a, b, c, d], _, one => exact .tup (.cons (one a (by simp)) (.cons (one b (by simp)) (.cons (one c (by simp)) (.cons (one d (by simp)) .nil (w2 := 0) (wt := 129) (by decide)) (wt := 258) (by decide)) (wt := 387) (by decide)) (by decide))
abbrev st15 (c : Cell) (pe ve li pa : List D) : Store := [c, .ins "Book" (bookFs 1 10 pe ve li), .lst [], .lst [], .lst [], .lst (pa.map U.d), .lst (li.map U.d)]
theorem st15_wf {c : Cell} {pe ve li pa : List D} (hc : IsBox c) : Wf (st15 c pe ve li pa) := by
  show ((st15 c pe ve li pa).all (cellBelow 7)) = true
  simp only [st15, List.all_cons, List.all_nil, hc.below, data_below, Bool.true_and, Bool.and_true]
  rfl
theorem st15_book {c : Cell} {pe ve li pa : List D} : BookAt (st15 c pe ve li pa) 1 10 pe ve [] [] [] li pa := ⟨rfl, rfl, rfl, rfl, rfl⟩
theorem st15_chg {c : Cell} {pe ve li pa : List D} {j : Nat} {x : D} : chg (st15 c pe ve li pa) 1 10 pe ve [] [] [] li pa j x = [c, .ins "Book" (bookFs 1 10 pe ve (li.set j x)), .lst [], .lst [], .lst [], .lst ((pa ++ [stateD [] [] [] li]).map U.d), .lst (li.map U.d)] := rfl
/-- the end of a turn: what the book says of its limits -/
theorem tail15 {c : Cell} {pe ve li pa : List D} {δ : DEnv} {k : Kn} (hb : IsBox c) (hl : li.length = 4) (hv : ∀ d ∈ li, LimV d) (e2 : δ[2]? = some (some (.own 1))) (e4 : δ[4]? = some (some (.own 6))) (h : k.nx δ (st15 c pe ve li pa)) :
    wS (sIf (tOrB (tVal (eBin neU (eCB reprU (aCons (eMc "Book" "limits" 0 0 (calF g_Book_limits [.p 0] [] []) (eVar 2) aNil (aNil)) (aNil))) (eCB reprU (aCons (eCB tupleU (aCons (eVar 4) (aNil))) (aNil))))) (tVal (eBin neU (eCB reprU (aCons (ePr "Book" g_Book_begin_limit (eVar 2)) (aNil))) (eCB reprU (aCons (eBin ixU (eVar 4) (eC (.int 0))) (aNil))))))
      (sRet (eC (.bl false))) (sNext) δ (st15 c pe ve li pa)) k := by
  have B : BookAt (st15 c pe ve li pa) 1 10 pe ve [] [] [] li pa := st15_book
  have W : Wf (st15 c pe ve li pa) := st15_wf hb
  have Bb := B.b
  have sh := lim_sh hl hv
  obtain ⟨a, ha⟩ : ∃ a, li[0]? = some a := ⟨li[0], List.getElem?_eq_getElem (by omega)⟩
  have sa : DOk a 0 128 := by
    rcases hv a (List.mem_of_getElem? ha) with rfl | ⟨i, rfl, h0, h1⟩
    · exact .non
    · exact .int (Nat.lt_of_le_of_lt (show i.natAbs ≤ 24 by omega) (by decide)) (Nat.le_refl _)
  walk_at "hb"
  refine w_var e2 ?_
  walk_at "hb"
  refine w_limits W B ?_
  walk_at "hb"
  refine w_reprD rfl sh (by decide) (by decide) ?_
  walk_at "hb"
  refine w_var e4 ?_
  walk_at "hb"
  refine w_tupL (us := li.map U.d) rfl (allD_map _) ?_
  walk_at "hb"
  refine w_reprD rfl sh (by decide) (by decide) ?_
  walk_at "hb"
  refine ⟨fun z => ?_, fun z => absurd z (by simp)⟩
  walk_at "hb"
  refine w_var e2 ?_
  refine ⟨⟨_, insU_own Bb⟩, ?_⟩
  refine w_begin W B ha ?_
  walk_at "hb"
  refine w_reprD rfl sa (by decide) (by decide) ?_
  walk_at "hb"
  refine w_var e4 ?_
  walk_at "hb"
  refine w_ix (us := li.map U.d) rfl (x := .d a) (by rw [atI_at (by decide) (by rw [List.length_map]; omega), List.getElem?_map]; show (li[0]?).map U.d = _; rw [ha]; rfl) ?_
  walk_at "hb"
  refine w_reprD rfl sa (by decide) (by decide) ?_
  walk_at "hb"
  refine ⟨fun z => absurd z (by simp), fun z => ?_⟩
  walk_at "hb"
  exact h
theorem pure_law (ns : List Int) (hn : ns.length ≤ 63) : ∃ μ, g_law [.d (.fl (ns.map D.int))] [] = .ok (.d (.bl true)) μ := by
  suffices h : wE (g_law [.d (.fl (ns.map D.int))] []) (fun u _ => u = .d (.bl true)) fun _ _ => False by
    obtain ⟨b, μ, e, rfl⟩ := wE_ex h
    exact ⟨μ, e⟩
  unfold g_law
  apply w_trunc
  apply w_fn rfl
  unfold F_law
  walk_at "hb"
  refine w_box fun c0 b0 => ?_
  walk_at "hb"
  have wf0 : Wf [c0] := by simp [Wf, b0.below]
  refine w_names (μ := [c0]) (n := 0) (cnt := 2) wf0 rfl b0 (by decide) fun xs p s c1 b1 hp hl hN => ?_
  have hns := names_ok hp (by omega) hN
  have wf1 : Wf [c1] := by simp [Wf, b1.below]
  walk_at "hb"
  refine w_book (μ := [c1]) (vs := ["news"]) wf1 hns (by omega) (by omega) (.inr rfl) ⟨by decide +kernel, by decide +kernel⟩ (by decide) (by decide) (by decide) (by decide) ?_
  walk_at "hb"
  refine ⟨rfl, ?_⟩
  walk_at "hb"
  refine ⟨_, rfl, rfl, ?_⟩
  walk_at "hb"
  refine w_take (n := 0) (c := c1) (st15_wf (pa := []) b1) rfl b1 (by decide) fun rr c2 b2 r0 r1 => ?_
  walk_at "hb"
  refine ⟨_, rfl, ⟨by omega, by omega⟩, ?_⟩
  refine w_forR (fun i δ' μ' => ∃ (c : Cell) (li pa : List D) (x5 x6 x7 x8 : Option U), IsBox c ∧ li.length = 4 ∧ (∀ d ∈ li, LimV d) ∧ pa.length ≤ i ∧ μ' = st15 c (xs.map D.str) [.str "news"] li pa ∧
    δ' = [some (.d (.fl (ns.map D.int))), some (.own 0), some (.own 1), some (.d (.lst (KS.map D.str))), some (.own 6), x5, x6, x7, x8]) ?_ ?_ ?_
  · refine ⟨c2, [.int 1, .non, .non, .non], [], none, none, none, none, b2, rfl, ?_, Nat.zero_le _, rfl, rfl⟩
    intro d hd
    simp at hd
    rcases hd with rfl | rfl
    · exact .inr ⟨1, rfl, by decide, by decide⟩
    · exact .inl rfl
  · rintro i δ' μ' hi ⟨c, li, pa, x5, x6, x7, x8, hb, hl4, hlv, hpa, rfl, rfl⟩
    refine ⟨_, rfl, ?_⟩
    walk_at "hb"
    refine w_take (n := 0) (st15_wf hb) rfl hb (by decide) fun q1 c3 b3 q10 q11 => ?_
    obtain ⟨k, hk, ek⟩ := ks_at q1 q10 q11
    refine w_ix (sqU_l _ _) ek ?_
    walk_at "hb"
    refine w_take (n := 0) (st15_wf b3) rfl b3 (by decide) fun q2 c4 b4 q20 q21 => ?_
    refine w_c (w_sub ?_)
    try dsimp only
    refine w_seqI (fun δ' μ' => ∃ cd, CntV cd ∧ μ' = st15 c4 (xs.map D.str) [.str "news"] li pa ∧ δ' = [some (.d (.fl (ns.map D.int))), some (.own 0), some (.own 1), some (.d (.lst (KS.map D.str))), some (.own 6), some (.d (.int (0 + i))), some (.d (.str k)), some (.d cd), x8]) ?_ ?_
    · walk_at "hb"
      refine ⟨fun z1 => ?_, fun z1 => ?_⟩
      · walk_at "hb"
        exact ⟨.non, .inl rfl, rfl, rfl⟩
      · walk_at "hb"
        refine ⟨fun z2 => ?_, fun z2 => ?_⟩
        · walk_at "hb"
          refine ⟨_, rfl, rfl, ?_⟩
          walk_at "hb"
          rcases Int.emod_two_eq (q2 - 2) with e | e
          · rw [e]
            refine w_ix (sqU_l _ _) rfl ?_
            exact ⟨_, .inr ⟨_, rfl, by decide⟩, rfl, rfl⟩
          · rw [e]
            refine w_ix (sqU_l _ _) rfl ?_
            exact ⟨_, .inr ⟨_, rfl, by decide⟩, rfl, rfl⟩
        · walk_at "hb"
          exact ⟨_, .inr ⟨_, rfl, Nat.lt_of_le_of_lt (show (q2 - 2).natAbs ≤ 40 by omega) (by decide)⟩, rfl, rfl⟩
    rintro δ' μ' ⟨cd, hcd, rfl, rfl⟩
    refine w_seq (w_set ?_)
    walk_at "hb"
    refine ⟨_, rfl, rfl, ?_⟩
    try dsimp only
    have kst := ks_ok k hk
    have B4 : BookAt (st15 c4 (xs.map D.str) [.str "news"] li pa) 1 10 (xs.map D.str) [.str "news"] [] [] [] li pa := st15_book
    have W4 : Wf (st15 c4 (xs.map D.str) [.str "news"] li pa) := st15_wf b4
    by_cases hK : k ∈ KND
    · by_cases hR : LimV cd
      · obtain ⟨j, hj, j4⟩ := idx_of hK
        have hj8 : idxOf k KS = some j := (ks_idx k hk hK).trans hj
        have j4' : j < 4 := j4
        refine w_seqI (fun δ' μ' => μ' = [c4, .ins "Book" (bookFs 1 10 (xs.map D.str) [.str "news"] li), .lst [], .lst [], .lst [], .lst (pa.map U.d), .lst ((li.set j cd).map U.d)] ∧ δ' = [some (.d (.fl (ns.map D.int))), some (.own 0), some (.own 1), some (.d (.lst (KS.map D.str))), some (.own 6), some (.d (.int (0 + i))), some (.d (.str k)), some (.d cd), some (.d (.tup [.str "done", .non]))]) ?_ ?_
        · walk_at "hb"
          refine ⟨_, rfl, ?_⟩
          walk_at "hb"
          refine w_nin (us := (KND.map D.str).map U.d) (ds := KND.map D.str) rfl (allD_map _) (strs_flat KND) ?_
          rw [inD_strs, decide_eq_true hK]
          have fin : ∀ K : Kn, K.nx [some (.d (.fl (ns.map D.int))), some (.own 0), some (.own 1), some (.d (.lst (KS.map D.str))), some (.own 6), some (.d (.int (0 + i))), some (.d (.str k)), some (.d cd), some (.d (.tup [.str "done", .non]))] [c4, .ins "Book" (bookFs 1 10 (xs.map D.str) [.str "news"] li), .lst [], .lst [], .lst [], .lst (pa.map U.d), .lst ((li.set j cd).map U.d)] →
              wS (sSetIx (eVar 4) (eMt idxU (eVar 3) (aCons (eVar 6) (aNil))) (eVar 7) [some (.d (.fl (ns.map D.int))), some (.own 0), some (.own 1), some (.d (.lst (KS.map D.str))), some (.own 6), some (.d (.int (0 + i))), some (.d (.str k)), some (.d cd), some (.d (.tup [.str "done", .non]))] (st15 c4 (xs.map D.str) [.str "news"] li pa)) K := fun K hK => by
            walk_at "hb"
            refine ⟨rfl, ?_⟩
            walk_at "hb"
            refine w_idx (us := (KS.map D.str).map U.d) (ys := KS) rfl rfl hj8 ?_
            refine ⟨_, setIx_own (us := li.map U.d) rfl (ixN_nat (by rw [List.length_map]; omega)), ?_⟩
            rw [← List.map_set]
            exact hK
          refine w_onB ⟨fun z => absurd z (by decide), fun _ => ?_⟩
          rcases hR with rfl | ⟨z, rfl, z0, z1⟩
          · refine w_sif (w_and (w_tval (w_bin (w_var rfl (w_c (w_isyN (w_onB ⟨fun z => absurd z (by decide), fun _ => ?_⟩)))))))
            exact ⟨fun z => absurd z (by decide), fun _ => fin _ ⟨rfl, rfl⟩⟩
          · refine w_sif (w_and (w_tval (w_bin (w_var rfl (w_c (w_isyI (w_onB ⟨fun _ => ?_, fun z => absurd z (by decide)⟩)))))))
            refine w_or (w_tval (w_bin (w_var rfl (w_c (w_lt (w_onB ⟨fun _ => ?_, fun z => absurd z (by simp; omega)⟩))))))
            refine w_tval (w_bin (w_var rfl (w_c (w_gt (w_onB ?_)))))
            exact ⟨fun z => absurd z (by simp; omega), fun _ => fin _ ⟨rfl, rfl⟩⟩
        · rintro δ' μ' ⟨rfl, rfl⟩
          have hB2 : BookAt [c4, .ins "Book" (bookFs 1 10 (xs.map D.str) [.str "news"] li), .lst [], .lst [], .lst [], .lst (pa.map U.d), .lst ((li.set j cd).map U.d)] 1 10 (xs.map D.str) [.str "news"] [] [] [] li pa := ⟨rfl, rfl, rfl, rfl, rfl⟩
          have hW2 : Wf [c4, .ins "Book" (bookFs 1 10 (xs.map D.str) [.str "news"] li), .lst [], .lst [], .lst [], .lst (pa.map U.d), .lst ((li.set j cd).map U.d)] := W4.set (n := 6) (data_below _ _)
          walk_at "hb"
          refine w_lawchange_ok hW2 hB2 (decide_eq_true (by omega)) hj hl4 hR ?_
          walk_at "hb"
          have sh : DOk (.tup [.str "done", .non]) 1 100 := .tup (.cons (.str (by decide +kernel) (wt := 10) (by decide)) (.cons .non (.nil (wt := 0)) (w1 := 0) (wt := 9) (by decide)) (by decide))
          refine w_reprD rfl sh (by decide) (by decide) ?_
          walk_at "hb"
          refine w_reprD rfl sh (by decide) (by decide) ?_
          refine w_neT (w_onB ⟨fun z => absurd z (by simp), fun z => ?_⟩)
          refine w_next ?_
          have hl5 : (li.set j cd).length = 4 := by rw [List.length_set]; exact hl4
          have hlv5 : ∀ d ∈ li.set j cd, LimV d := fun d hd => by
            rcases List.mem_or_eq_of_mem_set hd with hd | rfl
            · exact hlv d hd
            · exact hR
          refine tail15 (li := li.set j cd) (pa := pa ++ [stateD [] [] [] li]) b4 hl5 hlv5 rfl rfl ?_
          exact ⟨c4, li.set j cd, pa ++ [stateD [] [] [] li], _, _, _, _, b4, hl5, hlv5, by simp; omega, rfl, rfl⟩
      · obtain ⟨z, rfl, hz⟩ : ∃ z : Int, cd = .int z ∧ z.natAbs < 10 ^ 38 := by
          rcases hcd with rfl | h
          · exact absurd (.inl rfl) hR
          · exact h
        have hz2 : ¬ (0 ≤ z ∧ z ≤ 24) := fun h => hR (.inr ⟨z, rfl, h.1, h.2⟩)
        refine w_seqI (fun δ' μ' => μ' = st15 c4 (xs.map D.str) [.str "news"] li pa ∧ δ' = [some (.d (.fl (ns.map D.int))), some (.own 0), some (.own 1), some (.d (.lst (KS.map D.str))), some (.own 6), some (.d (.int (0 + i))), some (.d (.str k)), some (.d (.int z)), some (.d (.tup [.str "range", .int z]))]) ?_ ?_
        · walk_at "hb"
          refine ⟨_, rfl, ?_⟩
          walk_at "hb"
          refine w_nin (us := (KND.map D.str).map U.d) (ds := KND.map D.str) rfl (allD_map _) (strs_flat KND) ?_
          rw [inD_strs, decide_eq_true hK]
          walk_at "hb"
          refine ⟨fun y => ?_, fun y => ?_⟩
          · walk_at "hb"
            refine ⟨fun y2 => ?_, fun y2 => absurd y2 (by simp at y ⊢; omega)⟩
            walk_at "hb"
            exact ⟨_, rfl, rfl, rfl, rfl⟩
          · walk_at "hb"
            exact ⟨_, rfl, rfl, rfl, rfl⟩
        · rintro δ' μ' ⟨rfl, rfl⟩
          walk_at "hb"
          refine w_lawchange_range W4 B4 hK hz2 ?_
          walk_at "hb"
          have sh : DOk (.tup [.str "range", .int z]) 1 300 := .tup (.cons (.str (by decide +kernel) (wt := 10) (by decide)) (.cons (.int hz (Nat.le_refl _)) (.nil (wt := 0)) (wt := 129) (by decide)) (by decide))
          refine w_reprD rfl sh (by decide) (by decide) ?_
          walk_at "hb"
          refine w_reprD rfl sh (by decide) (by decide) ?_
          refine w_neT (w_onB ⟨fun z => absurd z (by simp), fun z => ?_⟩)
          refine w_next ?_
          refine tail15 b4 hl4 hlv rfl rfl ?_
          exact ⟨c4, li, pa, _, _, _, _, b4, hl4, hlv, by omega, rfl, rfl⟩
    · walk_at "hb"
      refine ⟨_, rfl, ?_⟩
      walk_at "hb"
      refine w_nin (us := (KND.map D.str).map U.d) (ds := KND.map D.str) rfl (allD_map _) (strs_flat KND) ?_
      rw [inD_strs, decide_eq_false hK]
      walk_at "hb"
      refine ⟨_, rfl, rfl, ?_⟩
      walk_at "hb"
      refine w_lawchange_kind W4 B4 hK ?_
      walk_at "hb"
      have sh : DOk (.tup [.str "kind", .str k]) 1 100 := .tup (.cons (.str (by decide +kernel) (wt := 10) (by decide)) (.cons (.str kst.1 kst.2) (.nil (wt := 0)) (wt := 9) (by decide)) (by decide))
      refine w_reprD rfl sh (by decide) (by decide) ?_
      walk_at "hb"
      refine w_reprD rfl sh (by decide) (by decide) ?_
      refine w_neT (w_onB ⟨fun z => absurd z (by simp), fun z => ?_⟩)
      refine w_next ?_
      refine tail15 b4 hl4 hlv rfl rfl ?_
      exact ⟨c4, li, pa, _, _, _, _, b4, hl4, hlv, by omega, rfl, rfl⟩
  · rintro δ' μ' ⟨c, li, pa, x5, x6, x7, x8, hb, hl4, hlv, hpa, rfl, rfl⟩
    have B : BookAt (st15 c (xs.map D.str) [.str "news"] li pa) 1 10 (xs.map D.str) [.str "news"] [] [] [] li pa := st15_book
    have W : Wf (st15 c (xs.map D.str) [.str "news"] li pa) := st15_wf hb
    have Bb := B.b
    walk_at "hb"
    refine w_facts W B ?_
    walk_at "hb"
    refine ⟨_, rfl, rfl, ?_⟩
    refine w_eqD rfl rfl rfl rfl rfl rfl ?_
    refine w_onB ⟨fun _ => ?_, fun z => absurd z (by decide)⟩
    walk_at "hb"
    refine w_meetings W B ?_
    walk_at "hb"
    refine ⟨_, rfl, rfl, ?_⟩
    refine w_eqD rfl rfl rfl rfl rfl rfl ?_
    refine w_onB ⟨fun _ => ?_, fun z => absurd z (by decide)⟩
    walk_at "hb"
    refine w_turns W B ?_
    walk_at "hb"
    refine ⟨_, rfl, rfl, ?_⟩
    refine w_eqD rfl rfl rfl rfl rfl rfl ?_
    exact ⟨rfl, rfl, rfl⟩
end HB
end
section
set_option Elab.async false
set_option linter.all false
set_option maxRecDepth 100000
set_option maxHeartbeats 0
open PySem PySem.W PySem.Calls PyProof.Rows
theorem PySem.Challenge.cw_heardby_k15_limits_holds : PySem.Challenge.rw_heardby_k15_limits.Holds := by
  w_on; o_law
  refine HandSHeadRun.head_any (r := HB.R) (q := HB.qv) (H := HB.hk) (ob := HB.obH) (M := 8000) (loose := HB.names) (d := HandSHeadRun.topDef HB.R.prog 51) (kwd := []) HB.obH_eq
    (by kernel_rfl) (fun s => by kernel_rfl) HB.run (by kernel_rfl) (by kernel_rfl) (by kernel_rfl) (by rfl) (by first | assumption | decide +kernel) (by decide +kernel) ⟨rfl, rfl, rfl, rfl, rfl, by decide +kernel⟩ ?hw ?hc
  case hw => w_witness2
  case hc =>
    refine HB.walk_G (l := PySem.Challenge.rw_heardby_k15_limits) (n := 63) (k := 6) (x := "_law_script") rfl (by decide) (by kernel_rfl) ⟨rfl, by decide, by decide⟩ ?F
    intro w mg fa h Y G hmg0
    obtain ⟨K, KX, c⟩ := Y
    have hmg : mg ("law" : PySem.Str) = some (.ref fa) := by
      have e : (HandSHeadRun.topDef HB.R.prog 51).name = ("law" : PySem.Str) := by kernel_rfl
      rw [← e]
      exact hmg0
    have T := HB.txt_of KX G c
    have e := hmg.symm.trans T.g_law
    cases e
    refine ⟨K, HB.fdOf K (He.ga K "law"), HB.SpU K HB.g_law, KX, fun s v => HB.bnA_law T s v, fun H a ns hl hS => ?_, fun base _ _ => HB.ok_law T⟩
    exact HB.sp_law hS (HB.pure_law ns hl)
end
